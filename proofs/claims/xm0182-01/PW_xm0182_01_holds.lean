import PyProof.Rows.All
import Wide.All
import OpenK.AllK
import Wide.FinOn
import Lean
import PySem.Challenge.RW_xm0182_01
open PySem PySem.W PySem.Calls PyProof.Rows
set_option rowWalk.seconds 0

namespace Mine
section
def Bx (p : Prop) : Prop := p
theorem bx {p : Prop} (h : p) : Bx p = True := eq_true h
theorem unbx {p : Prop} (h : Bx p) : p := h
theorem cut3 {W X Y Z G : Prop} (f : X → Y → Z → W → G) : True := trivial
theorem cutl {X Y Z G : Prop} (hl : X) (hw : Y) (hc : Z) (main : G) : G := main
set_option maxRecDepth 100000 in
set_option maxHeartbeats 8000000 in
theorem hd0 : True := by
  apply @cut3 (W := PySem.Challenge.rw_xm0182_01.row.wellSaid = true) (G := PySem.Challenge.rw_xm0182_01.row.Holds)
  case f =>
    intro a b c said
    apply cutl (G := PySem.Challenge.rw_xm0182_01.row.Holds)
    case main =>
      skip
      w_on
      k_head
    case hl => exact a
    case hw => exact b
    case hc => exact c
end
set_option Elab.async false
example : True := by w_top off; trivial
set_option linter.all false
set_option linter.unusedVariables false
set_option linter.unnecessarySimpa false
section
local macro_rules | `(tactic| walk_at "ite") => `(tactic| k_extra "ite!")
local macro_rules | `(tactic| walk_at "subscriptTail Name Constant ref str") => `(tactic| k_extra "subscriptTail Name Constant ref str!")
local macro_rules | `(tactic| walk_at "subscriptTail Name Constant ref int") => `(tactic| k_extra "subscriptTail Name Constant ref int!")
local macro_rules | `(tactic| walk_at "eval Name") => `(tactic| k_extra "eval Name!")
local macro_rules | `(tactic| walk_at "exec Assign") => `(tactic| k_extra "exec Assign!")
local macro_rules | `(tactic| walk_at "spliced") => `(tactic| k_extra "spliced!")
local macro_rules | `(tactic| walk_at "eval Constant str") => `(tactic| k_extra "eval Constant str!")
local macro_rules | `(tactic| walk_at "eval Constant int") => `(tactic| k_extra "eval Constant int!")
local macro_rules | `(tactic| walk_at "storeName") => `(tactic| k_extra "storeName!")
local macro_rules | `(tactic| walk_at "unpackItems ref") => `(tactic| k_extra "unpackItems ref!")
local macro_rules | `(tactic| walk_at "newTuple cons") => `(tactic| k_extra "newTuple cons!")
local macro_rules | `(tactic| walk_at "eval Subscript") => `(tactic| k_extra "eval Subscript!")
local macro_rules | `(tactic| walk_at "execs cons") => `(tactic| k_extra "execs cons!")
local macro_rules | `(tactic| k_room) => `(tactic| k_extra "k_room!")
local macro_rules | `(tactic| ke_room) => `(tactic| k_extra "ke_room!")
local macro_rules | `(tactic| walk_at "call ref") => `(tactic| k_extra "call ref!")
local macro_rules | `(tactic| walk_at "call builtin:len") => `(tactic| k_extra "call builtin:len!")
local macro_rules | `(tactic| walk_at "subscriptTail") => `(tactic| k_extra "subscriptTail!")
local macro_rules | `(tactic| walk_at "compareOp NotEq ref ref") => `(tactic| k_extra "compareOp NotEq ref ref!")
local macro_rules | `(tactic| walk_at "compareOp Eq ref ref") => `(tactic| k_extra "compareOp Eq ref ref!")
local macro_rules | `(tactic| walk_at "call builtin:list.pop") => `(tactic| k_extra "call builtin:list.pop!")
local macro_rules | `(tactic| walk_at "call builtin:list.append") => `(tactic| k_extra "call builtin:list.append!")
local macro_rules | `(tactic| k_mem) => `(tactic| k_extra "k_mem!")
local macro_rules | `(tactic| k_all) => `(tactic| k_extra "k_all!")
local macro_rules | `(tactic| walk_at "eval ListComp") => `(tactic| k_extra "eval ListComp!")
local macro_rules | `(tactic| walk_at "FiltSrc") => `(tactic| k_extra "FiltSrc!")
local macro_rules | `(tactic| ked_read) => `(tactic| k_extra "ked_read!")
local macro_rules | `(tactic| k_memK) => `(tactic| k_extra "k_memK!")
local macro_rules | `(tactic| k_ne) => `(tactic| k_extra "k_ne!")
local macro_rules | `(tactic| k_in) => `(tactic| k_extra "k_in!")
local macro_rules | `(tactic| walk_at "CompRest") => `(tactic| k_extra "CompRest!")
local macro_rules | `(tactic| walk_at "CompRestT") => `(tactic| k_extra "CompRestT!")
local macro_rules | `(tactic| walk_at "FinE") => `(tactic| k_extra "FinE!")
local macro_rules | `(tactic| walk_at "FinA") => `(tactic| k_extra "FinA!")
local macro_rules | `(tactic| walk_at "newTuple") => `(tactic| k_extra "newTuple!")
local macro_rules | `(tactic| walk_at "newList") => `(tactic| k_extra "newList!")
local macro_rules | `(tactic| walk_at "compareOp IsNot") => `(tactic| k_extra "compareOp IsNot!")
local macro_rules | `(tactic| walk_at "isTrue BoolOp") => `(tactic| k_extra "isTrue BoolOp!")
local macro_rules | `(tactic| walk_at "pyIter ref") => `(tactic| k_extra "pyIter ref!")
local macro_rules | `(tactic| walk_at "UnrEndW") => `(tactic| k_extra "UnrEndW!")
local macro_rules | `(tactic| walk_at "compareOp NotEq bool bool") => `(tactic| k_extra "compareOp NotEq bool bool!")
local macro_rules | `(tactic| walk_at "exec For Tuple Name cons nil") => `(tactic| k_extra "exec For Tuple Name cons nil!")
local macro_rules | `(tactic| walk_at "compareOp Is") => `(tactic| k_extra "compareOp Is!")
local macro_rules | `(tactic| walk_at "compareOp NotIn") => `(tactic| k_extra "compareOp NotIn!")
local macro_rules | `(tactic| walk_at "call type:range") => `(tactic| k_extra "call type:range!")
local macro_rules | `(tactic| walk_at "setItem ref ref") => `(tactic| k_extra "setItem ref ref!")
local macro_rules | `(tactic| walk_at "subscriptTail Name Call") => `(tactic| k_extra "subscriptTail Name Call!")
local macro_rules | `(tactic| walk_at "exec Assign cons ListComp") => `(tactic| k_extra "exec Assign cons ListComp!")
local macro_rules | `(tactic| walk_at "CompEnd") => `(tactic| k_extra "CompEnd!")
local macro_rules | `(tactic| walk_at "CompSrc") => `(tactic| k_extra "CompSrc!")
example (P : Params) : Mine.hd0.heap_1_1 P = Mine.hd0.heap_1_1 P ∧ PySem.Challenge.rw_xm0182_01 = PySem.Challenge.rw_xm0182_01 := by k_fill; exact ⟨rfl, rfl⟩
section
example : True := by
  w_top off
  trivial
theorem itT {inst : Decidable (true = true)} {a b : Prop} (h : a) : @ite Prop (true = true) inst a b := by rw [if_pos rfl]; exact h
theorem itF {inst : Decidable (false = true)} {a b : Prop} (h : b) : @ite Prop (false = true) inst a b := by rw [if_neg Bool.false_ne_true]; exact h
theorem itNT {inst : Decidable ((!true) = true)} {a b : Prop} (h : b) : @ite Prop ((!true) = true) inst a b := by rw [if_neg (fun e : (!true) = true => Bool.false_ne_true e)]; exact h
theorem itNF {inst : Decidable ((!false) = true)} {a b : Prop} (h : a) : @ite Prop ((!false) = true) inst a b := by rw [if_pos Bool.not_false]; exact h
theorem sz_le {n : Nat} (h : Nat.ble n 64 = true) : n ≤ sizeLine := Nat.le_trans (Nat.le_of_ble_eq_true h) (by rw [sizeLine_eq]; decide)
theorem allc {α : Type} {P : α → Prop} {a : α} {l : List α} (h : P a ∧ ∀ x ∈ l, P x) : ∀ x ∈ a :: l, P x := List.forall_mem_cons.mpr h
theorem allk {α : Type} {P : α → Prop} {a : α} {l : List α} (h : P a) (t : ∀ x ∈ l, P x) : ∀ x ∈ a :: l, P x := List.forall_mem_cons.mpr ⟨h, t⟩
section
variable {M : Model} {A : Around} {E : Value → Shared → Prop} {h₀ h : Heap} {L a : Addr} {m : Str → Option Value} {cn : Str} {cs : Scope} {ccd : Value} {cl : List (Str × Addr)} {gs : Array GenState} {dr : Drawn} {tk : Nat} {os : OsState} {news : List (Addr × Obj)} {x : Str} {v : Value}
/-- a list of names and constants, read one after another -/
inductive RdArgs (env : Env) (m : Str → Option Value) : List PySem.Expr → Nat → List Value → Nat → Prop
  | nil {t} : RdArgs env m [] t [] t
  | name {x p rest t v vs t'} (hx : env.kindOf x = some .local) (hd : (x == ("__debug__" : Str)) = false) (hv : m x = some v) (r : RdArgs env m rest t vs t') : RdArgs env m (.Name x p :: rest) t (v :: vs) t'
  | str {x k p rest t vs t'} (r : RdArgs env m rest (t + 1) vs t') : RdArgs env m (.Constant (.str x) k p :: rest) t (.str x t :: vs) t'
  | int {x k p rest t vs t'} (r : RdArgs env m rest (t + 1) vs t') : RdArgs env m (.Constant (.int x) k p :: rest) t (.int x t :: vs) t'
  | bool {x k p rest t vs t'} (r : RdArgs env m rest t vs t') : RdArgs env m (.Constant (.bool x) k p :: rest) t (.bool x :: vs) t'
  | non {k p rest t vs t'} (r : RdArgs env m rest t vs t') : RdArgs env m (.Constant .none k p :: rest) t (.none :: vs) t'
theorem args_rd {elts : List PySem.Expr} {vs : List Value} {t' : Nat} {pos : Pos} (F : Fr h₀ L h m) (hk : cs.kind = .function) (r : RdArgs (envX cn cs L a ccd cl) m elts tk vs t') :
    ∀ {Q : List Value → Shared → Prop}, Q vs ⟨h, gs, dr, t', os⟩ → wpAny M A (spliced (backTo pos (starEach elts (envX cn cs L a ccd cl)))) Q E ⟨h, gs, dr, tk, os⟩ := by
  induction r with
  | nil => intro Q k; exact args_nil k
  | name hx hd hv r ih => intro Q k; exact args_cons (nameX_L F hv (ih (Q := fun vs s => Q (_ :: vs) s) k) hk hx hd)
  | str r ih => intro Q k; exact args_cons (Constant_str (ih (Q := fun vs s => Q (_ :: vs) s) k))
  | int r ih => intro Q k; exact args_cons (wpAny_Constant_int (ih (Q := fun vs s => Q (_ :: vs) s) k))
  | bool r ih => intro Q k; exact args_cons (Constant_bool (ih (Q := fun vs s => Q (_ :: vs) s) k))
  | non r ih => intro Q k; exact args_cons (Constant_none (ih (Q := fun vs s => Q (_ :: vs) s) k))
/-- what follows a statement: the rest of the block, or the way out -/
abbrev seqK (M : Model) (A : Around) (E : Value → Shared → Prop) (env : Env) (rest : List Stmt) (Q : Flow → Shared → Prop) : Flow → Shared → Prop := fun f s' => match f with | .next => wpAny M A (execs rest env) Q E s' | f => Q f s'
/-- the count of names given out so far is forgotten at each statement -/
theorem execs_gen {st : Stmt} {rest : List Stmt} {env : Env} {Q : Flow → Shared → Prop} (k : ∀ t, wpAny M A (exec st env) (seqK M A E env rest Q) E ⟨h, gs, dr, t, os⟩) : wpAny M A (execs (st :: rest) env) Q E ⟨h, gs, dr, tk, os⟩ := wpAny_execs_cons (k tk)
theorem const_str {x : Str} {k pos} {env : Env} {Q : Value → Shared → Prop} (q : Q (.str x tk) ⟨h, gs, dr, tk + 1, os⟩) : wpAny M A (eval (.Constant (.str x) k pos) env) Q E ⟨h, gs, dr, tk, os⟩ := Constant_str q
theorem const_int {x : Int} {k pos} {env : Env} {Q : Value → Shared → Prop} (q : Q (.int x tk) ⟨h, gs, dr, tk + 1, os⟩) : wpAny M A (eval (.Constant (.int x) k pos) env) Q E ⟨h, gs, dr, tk, os⟩ := wpAny_Constant_int q
theorem storeN {Q : Unit → Shared → Prop} (F : Fr h₀ L h m) (N : News h₀ L h news)
    (k : ∀ h', Fr h₀ L h' (fun y => if y = x then some v else m y) → News h₀ L h' news → Q () ⟨h', gs, dr, tk + 1, os⟩)
    (hk : cs.kind = .function) (hx : (envX cn cs L a ccd cl).kindOf x = some .local) : wpAny M A (storeName (envX cn cs L a ccd cl) x v) Q E ⟨h, gs, dr, tk, os⟩ := storeX_L F N k hk hx
theorem unpackN {prog : Program} {w : World} {t : Addr} {items : Array Value} {n : Nat} {Q : List Value → Shared → Prop} (F : Fr h₀ L h m) (N : News h₀ L h news) (ht : IsTup h t items)
    (hh : A.handled = none) (hn : n = items.size) (k : ∀ h', Fr h₀ L h' m → News h₀ L h' news → Q items.toList ⟨h', gs, dr, tk, os⟩) : wpAny (model prog w) A (unpackItems (.ref t) n none) Q E ⟨h, gs, dr, tk, os⟩ := unpackItemsN_ F N ht hh hn k
theorem itemN {prog : Program} {w : World} {K : Type} [DecidableEq K] {knd : KeyKind prog w K} {kvs : List (K × Value)} {key : Value} {k : K} {d : Addr} {o : Obj} {value slice : PySem.Expr} {Q : Value → Shared → Prop} (N : News h₀ L h news) (hp : (d, o) ∈ news) (hd : o.IsDictOf knd kvs) (hkey : knd.is k key = true) (hl : valueAt kvs k = some v) (q : Q v ⟨h, gs, dr, tk + 1, os⟩)
    (hs : subscripted slice false (.ref d) key = operate [.ref d, key] (getItem (.ref d) key)) (hg : ∀ r, letTemporaryGo value (.ref d) r = pure ()) :
    wpAny (model prog w) A (subscriptTail value slice (.ref d) key) Q E ⟨h, gs, dr, tk, os⟩ := kda_item N hp hd hkey hl q hs hg
theorem tupTo2 {prog : Program} {w : World} {x y : Str} {xp yp pos : Pos} {k : Nat} {v1 v2 : Value} {Q : Unit → Shared → Prop} (F : Fr h₀ L h m) (N : News h₀ L h news) (hk : cs.kind = .function) (hx : (envX cn cs L a ccd cl).kindOf x = some .local) (hy : (envX cn cs L a ccd cl).kindOf y = some .local) (hh : A.handled = none)
    (q : ∀ h', Fr h₀ L h' (fun z => if z = y then some v2 else if z = x then some v1 else m z) → News h₀ L h' news → Q () ⟨h', gs, dr, tk + 1 + 1, os⟩) :
    wpAny (model prog w) A (newTuple [v1, v2]) (fun v s₁ => wpAny (model prog w) A (assign (.Tuple [.Name x xp, .Name y yp] k pos) (envX cn cs L a ccd cl) v) Q E s₁) E ⟨h, gs, dr, tk, os⟩ := by
  refine kup_newTuple F N (fun D h1 F1 N1 l1 => ?_) (sz_le rfl)
  refine unpackN_ (s := ⟨h1, gs, dr, tk, os⟩) F1 N1 (News.isTup N1 (.head _)) hh rfl rfl (fun h2 F2 N2 => ?_)
  refine assignInOrder_cons (assign_Name (storeX_L F2 N2 (fun h3 F3 N3 => ?_) hk hx))
  refine assignInOrder_cons (assign_Name (storeX_L F3 N3 (fun h4 F4 N4 => ?_) hk hy))
  exact assignInOrder_nil (q h4 F4 (fun p hp => N4 p (.tail _ hp)))
theorem tupTo2s {prog : Program} {w : World} {x y : Str} {v1 v2 : Value} {names : List Str} {Q : Unit → Shared → Prop} (F : Fr h₀ L h m) (N : News h₀ L h news) (hts : names = [x, y]) (hk : cs.kind = .function) (hx : (envX cn cs L a ccd cl).kindOf x = some .local) (hy : (envX cn cs L a ccd cl).kindOf y = some .local) (hh : A.handled = none)
    (q : ∀ h', Fr h₀ L h' (fun z => if z = x then some v1 else if z = y then some v2 else m z) → News h₀ L h' news → Q () ⟨h', gs, dr, tk + 1 + 1, os⟩) :
    wpAny (model prog w) A (newTuple [v1, v2]) (fun v s₁ => wpAny (model prog w) A (unpackItems v names.length none) (fun items s₂ => wpAny (model prog w) A (assignInOrder (names.reverse.map fun n => bindName (envX cn cs L a ccd cl) n) items.reverse) Q E s₂) E s₁) E ⟨h, gs, dr, tk, os⟩ := by
  subst hts
  refine kup_newTuple F N (fun D h1 F1 N1 l1 => ?_) (sz_le rfl)
  refine unpackItemsN_ (s := ⟨h1, gs, dr, tk, os⟩) F1 N1 (News.isTup N1 (.head _)) hh rfl (fun h2 F2 N2 => ?_)
  show wpAny _ _ (assignInOrder [bindName (envX cn cs L a ccd cl) y, bindName (envX cn cs L a ccd cl) x] [v2, v1]) _ _ _
  refine assignInOrder_cons (bindName_ (storeX_L F2 N2 (fun h3 F3 N3 => ?_) hk hy))
  refine assignInOrder_cons (bindName_ (storeX_L F3 N3 (fun h4 F4 N4 => ?_) hk hx))
  exact assignInOrder_nil (q h4 F4 (fun p hp => N4 p (.tail _ hp)))
theorem subName {prog : Program} {w : World} {kvs : List (Str × Value)} {x key : Str} {d : Addr} {o : Obj} {xp cp pos : Pos} {ck : Nat} {Q : Value → Shared → Prop} (F : Fr h₀ L h m) (N : News h₀ L h news)
    (hk : cs.kind = .function) (hx : (envX cn cs L a ccd cl).kindOf x = some .local) (hd : (x == ("__debug__" : Str)) = false) (hv : m x = some (.ref d)) (hp : (d, o) ∈ news) (ho : o.IsDictOf (PySem.strKind prog w) kvs) (hl : valueAt kvs key = some v) (q : Q v ⟨h, gs, dr, tk + 1 + 1, os⟩) :
    wpAny (model prog w) A (eval (.Subscript (.Name x xp) (.Constant (.str key) ck cp) pos) (envX cn cs L a ccd cl)) Q E ⟨h, gs, dr, tk, os⟩ :=
  Subscript_ (nameX_L F hv (const_str (itemN N hp ho (strKind_is _ _ _ _) hl q (by with_unfolding_all rfl) (by intro _; with_unfolding_all rfl))) hk hx hd)
end
example : True := by
  (k_with "ite!" => with_reducible (first | refine itT ?_ | refine itF ?_ | refine itNT ?_ | refine itNF ?_))
  (k_with "subscriptTail Name Constant ref str!" => (k_here; k_dflt (refine' itemN (knd := PySem.strKind _ _) ?N_z ?m_z ?d_z (strKind_is _ _ _ _) ?r_z ?_ ?s_z ?g_z; (case N_z => k_asm); (case m_z => k_mem); (case d_z => k_asm); (case r_z => rfl); (case s_z => with_unfolding_all rfl); (case g_z => (intro _; with_unfolding_all rfl)))))
  (k_with "subscriptTail Name Constant ref int!" => (k_here; first | k_extra "subscriptTail!" | k_dflt (refine' item_tupleT ?t_z ?a_z ?b_z ?c_z ?d_z ?_; (case t_z => exact News.isTup (by k_asm) (by k_mem)); (case a_z => decide); (case b_z => decide); (case c_z => rfl); (case d_z => rfl); k_whole)))
  (k_with "eval Name!" => (k_here; k_dflt (refine' nameX_L ?F_z ?v_z ?_ ?a_z ?b_z; (case F_z => k_asm); (case a_z => rfl); (case b_z => rfl); (case v_z => rfl); k_whole)))
  (k_with "exec Assign!" => ((with_reducible show wpAny _ _ (exec (Stmt.Assign [Expr.Name _ _] _ _) _) _ _ _); with_reducible refine wpAny_Assign_Name ?_))
  (k_with "MY rd" => first | exact RdArgs.nil | (refine' RdArgs.name ?x_z ?d_z ?v_z ?r_z; (case x_z => rfl); (case d_z => decide); (case v_z => rfl); (case r_z => k_extra "MY rd")) | (refine' RdArgs.str ?r_z; (case r_z => k_extra "MY rd")) | (refine' RdArgs.int ?r_z; (case r_z => k_extra "MY rd")) | (refine' RdArgs.bool ?r_z; (case r_z => k_extra "MY rd")) | (refine' RdArgs.non ?r_z; (case r_z => k_extra "MY rd")))
  (k_with "spliced!" => (k_here; (first | with_reducible show wpAny _ _ (spliced (backTo _ (starEach (Expr.Name _ _ :: _) _))) _ _ _ | with_reducible show wpAny _ _ (spliced (backTo _ (starEach (Expr.Constant _ _ _ :: _) _))) _ _ _); k_dflt (refine' args_rd ?F_z ?k_z ?r_z ?_; (case F_z => k_asm); (case k_z => rfl); (case r_z => k_extra "MY rd"); k_whole); (try dsimp only [List.cons_append, List.nil_append])))
  (k_with "eval Constant str!" => with_reducible refine const_str ?_)
  (k_with "eval Constant int!" => with_reducible refine const_int ?_)
  (k_with "storeName!" => (k_here; k_dflt (refine' storeN ?F_z ?N_z ?_ ?a_z ?b_z; (case F_z => k_asm); (case N_z => k_asm); (case a_z => rfl); (case b_z => rfl); k_whole; intro hq' Fq' Nq'; (try k_sweep))))
  (k_with "unpackItems ref!" => (k_here; k_dflt (refine' unpackN ?k1_z ?k2_z ?k3_z ?k4_z ?k5_z ?_; (case k1_z => k_asm); (case k2_z => k_asm); (case k3_z => kun_tup); (case k4_z => exact rfl); (case k5_z => exact rfl); k_whole); intro hq' Fq' Nq'; (try k_sweep)))
  (k_with "newTuple cons!" => (k_here; (with_reducible show wpAny _ _ (newTuple [_, _]) _ _ _); k_dflt (first | (refine' tupTo2 ?F_z ?N_z ?k_z ?x_z ?y_z ?hh_z ?_; (case F_z => k_asm); (case N_z => k_asm); (case k_z => rfl); (case x_z => rfl); (case y_z => rfl); (case hh_z => exact rfl); k_whole) | (refine' tupTo2s ?F_z ?N_z ?t_z ?k_z ?x_z ?y_z ?hh_z ?_; (case F_z => k_asm); (case N_z => k_asm); (case t_z => with_unfolding_all rfl); (case k_z => rfl); (case x_z => rfl); (case y_z => rfl); (case hh_z => exact rfl); k_whole)); intro hq' Fq' Nq'; (try k_sweep)))
  (k_with "eval Subscript!" => (k_here; (with_reducible show wpAny _ _ (eval (Expr.Subscript (Expr.Name _ _) (Expr.Constant (Const.str _) _ _) _) _) _ _ _); k_dflt (refine' subName ?F_z ?N_z ?k_z ?x_z ?b_z ?v_z ?p_z ?o_z ?l_z ?_; (case F_z => k_asm); (case N_z => k_asm); (case k_z => rfl); (case x_z => rfl); (case b_z => decide); (case v_z => rfl); (case p_z => k_mem); (case o_z => k_asm); (case l_z => rfl); k_whole)))
  (k_with "execs cons!" => (k_here; (first | (with_reducible refine execs_gen ?_; intro tq') | with_reducible refine wpAny_execs_cons ?_); (try k_fold)))
  trivial

end
section
example : True := by
  w_top off
  trivial
noncomputable abbrev PV : Program := Mine.hd0.view_1_2
noncomputable abbrev PR : Program := PySem.Challenge.rw_xm0182_01.row.prog
noncomputable abbrev LO : List Str := looseW Mine.hd0.view_1_2 [Str.ofString "ChanError"]

/-- g lies within h -/
structure Ext (g h : Heap) : Prop where
  stays : g.StaysIn h
  size : g.objs.size ≤ h.objs.size

def NewsG (g h : Heap) (news : List (Addr × Obj)) : Prop := ∀ p ∈ news, h.get? p.1 = some p.2 ∧ g.get? p.1 = none

structure Gd (w : World) (mean : ExcName → Option Value) (mg mb : Str → Option Value) (A : Around) (base : Heap) (fs : List Env) (g : Heap) : Prop where
  B : Below A base fs g
  X : (Mine.hd0.heap_1_1 w.params).In g
  T : Top PV LO mean mg mb g

/-- two addresses apart (kept out of omega's sight) -/
structure Ap (a b : Addr) : Prop where
  ne : a ≠ b

/-- the list of mutable addresses, pairwise apart -/
def Aps : List Addr → Prop
  | [] => True
  | a :: r => (∀ b ∈ r, Ap a b) ∧ Aps r

theorem enterG {w : World} {mean : ExcName → Option Value} {mg mb : Str → Option Value} {A : Around} {base g : Heap} {fs : List Env} {s : Shared} {news : List (Addr × Obj)}
    {R : Result → Shared → Prop} {name qual : Str} {params : Arguments} {body : List Stmt} {scope : Scope} {dV kV doc pm cdv ct oc : Value} {an od : Option Addr} {osl : Array (Option Value)} {f : Addr} {args : Args} {binds : List (Str × Value)}
    (G : Gd w mean mg mb A base fs g) (hx : Ext g s.heap) (N : NewsG g s.heap news)
    (ho : (Mine.hd0.heap_1_1 w.params).lookup f = some ⟨oc, od, .func (fnOf name qual params body scope dV kV doc pm an cdv ct), osl⟩) (hcd : codeIn (Mine.hd0.heap_1_1 w.params) cdv qual = true) (hroom : A.depth < recursionLimit)
    (hbind : BindsTo s (fnOf name qual params body scope dV kV doc pm an cdv ct) args binds) (hloc : ∀ y ∈ binds, scope.names.lookup y.1 = some .local)
    (h : ∀ L' h₁, Fr g L' h₁ (fun y => binds.reverse.lookup y) → News g L' h₁ news →
      wpAny (model PR w) (A.deeper (envOf qual scope L' f cdv)) (execs body (envOf qual scope L' f cdv))
        (fun fl s' => R (.ok (.ret (match fl with | .ret v => v | _ => .none))) s')
        (fun e s' => wpAny (model PR w) (A.deeper (envOf qual scope L' f cdv)) (leaving (envOf qual scope L' f cdv) e) (fun _ s'' => R (.error e) s'') (fun e' s'' => R (.error e') s'') s')
        { s with heap := h₁, toks := s.toks + binds.length })
    (hco : scope.isCoroutine = false) (hgen : scope.isGenerator = false) (hk : scope.kind = .function)
    (hcell : ∀ x ∈ scope.names, x.2 ≠ .cell) : codeAny (model PR w) A (.call (.ref f) args) R s := by
  refine codeAny_call_def (fd := fnOf name qual params body scope dV kV doc pm an cdv ct) (body := body) (binds := binds) hroom (hx.stays _ _ (G.X _ _ ho)) rfl (G.T.nolimit.keeps hx.stays) (codeRec_of (G.X.keeps hx.stays) hcd) rfl hbind hcell hloc (fun h₁ hns hk₁ => ?_) hco hgen hk
  exact h s.heap.objs.size h₁ ⟨hns, fun b o e => hk₁ b o (hx.stays b o e), hx.size⟩ (fun p hp => ⟨hk₁ _ _ (N p hp).1, Nat.ne_of_lt (Heap.lt_size (N p hp).1), (N p hp).2⟩)

/-- a call is done: it hands back a value; of the ground all stands -/
def Done (s : Shared) (g : Heap) (P : Value → Heap → Prop) (r : Result) (s' : Shared) : Prop :=
  ∃ v h' tk, r = .ok (.ret v) ∧ s' = { s with heap := h', toks := tk } ∧ Ext g h' ∧ P v h'

theorem Done.of {s : Shared} {g : Heap} {P : Value → Heap → Prop} {v : Value} {h : Heap} {L : Addr} {m : Str → Option Value} {tk : Nat} (F : Fr g L h m) (hp : P v h) : Done s g P (.ok (.ret v)) { s with heap := h, toks := tk } :=
  ⟨v, h, tk, rfl, rfl, ⟨F.keep, Nat.le_trans F.above (Nat.le_of_lt F.ns.lt)⟩, hp⟩
theorem News.toG {g h : Heap} {L : Addr} {nw : List (Addr × Obj)} (N : News g L h nw) : NewsG g h nw := fun p hp => ⟨(N p hp).1, (N p hp).2.2⟩

theorem Gd.keeps_hide {w : World} {mean : ExcName → Option Value} {mg mb : Str → Option Value} {A₀ A : Around} {base g : Heap} {outer : List Env} {L : Addr} {m : Str → Option Value} {env : Env} {s : Shared} {mu : List (Addr × Obj)}
    (B : Below A₀ base outer g) (X : (Mine.hd0.heap_1_1 w.params).In g) (T : Top PV LO mean mg mb g) (F : Fr g L s.heap m) (N : News g L s.heap mu) (hA : A.frames = some (env :: outer)) (hf : env.frame = some L) (hke : env.scope.kind = .function) :
    Gd w mean mg mb A base (env :: outer) (hideAll s.heap (mu.map (·.1))) ∧ Ext (hideAll s.heap (mu.map (·.1))) s.heap := by
  obtain ⟨_, BG, st, _⟩ := groundX (R := fun _ _ => True) B F N hA hf hke
  exact ⟨⟨BG, X.keeps st, T.keeps st⟩, fun b o e => of_hideAll _ e, Nat.le_of_eq (hideAll_size _ _)⟩

/-- a call by its contract: what lies in `mu` may turn, all else stands -/
theorem callH {w : World} {mean : ExcName → Option Value} {mg mb : Str → Option Value} {A₀ A : Around} {base g : Heap} {outer : List Env} {L : Addr} {m : Str → Option Value} {env : Env} {s : Shared} {E : Value → Shared → Prop} {Q : Value → Shared → Prop}
    {f : Value} {args : List Value} {P : Heap → Value → Heap → Prop} (mu : List (Addr × Obj))
    (B : Below A₀ base outer g) (X : (Mine.hd0.heap_1_1 w.params).In g) (T : Top PV LO mean mg mb g) (F : Fr g L s.heap m) (hA : A.frames = some (env :: outer)) (hf : env.frame = some L) (hke : env.scope.kind = .function)
    (N : News g L s.heap mu)
    (spec : ∀ g', Gd w mean mg mb A base (env :: outer) g' → Ext g' s.heap → NewsG g' s.heap mu → (∀ b o, s.heap.get? b = some o → b ∉ mu.map (·.1) → g'.get? b = some o) → codeAny (model PR w) A (.call f ⟨args, []⟩) (Done s g' (P g')) s)
    (k : ∀ v h' tk g', Fr g L h' m → (∀ b o, s.heap.get? b = some o → b ∉ mu.map (·.1) → h'.get? b = some o) → (∀ nw, NewsG g' h' nw → News g L h' nw) → P g' v h' → Q v { s with heap := h', toks := tk }) :
    wpAny (model PR w) A (call f args) Q E s := by
  obtain ⟨G, hx⟩ := Gd.keeps_hide B X T F N hA hf hke
  have keep : ∀ b o, s.heap.get? b = some o → b ∉ mu.map (·.1) → (hideAll s.heap (mu.map (·.1))).get? b = some o := fun b o e n => hideAll_get _ e n
  refine wpAny_call (codeAny_mono (spec _ G hx (fun p hp => ⟨(N p hp).1, hideAll_none _ (List.mem_map_of_mem hp)⟩) keep) ?_)
  rintro r s' ⟨v, h', tk, rfl, rfl, hx', hP⟩
  obtain ⟨oL, es, ep, hL, hLd, hLk, hLf⟩ := F.ns
  have nL : L ∉ mu.map (·.1) := fun q => by
    obtain ⟨p, hp, e⟩ := List.mem_map.mp q
    exact (N p hp).2.1 e
  have nm : ∀ b o, g.get? b = some o → b ∉ mu.map (·.1) := fun b o e q => by
    obtain ⟨p, hp, rfl⟩ := List.mem_map.mp q
    rw [(N p hp).2.2] at e; cases e
  refine k v h' tk _ ⟨⟨oL, es, ep, hx'.stays _ _ (keep _ _ hL nL), hLd, hLk, hLf⟩, fun b o e => hx'.stays _ _ (keep _ _ (F.keep b o e) (nm b o e)), F.above⟩ (fun b o e n => hx'.stays _ _ (keep b o e n)) (fun nw NG p hp => ⟨(NG p hp).1, fun q => ?_, ?_⟩) hP
  · have := (NG p hp).2; rw [q, keep _ _ hL nL] at this; cases this
  · cases q : g.get? p.1 with
    | none => rfl
    | some o => have := (NG p hp).2; rw [keep _ _ (F.keep _ _ q) (nm _ _ q)] at this; cases this

theorem newsOne {g h : Heap} {L : Addr} {news : List (Addr × Obj)} {gf : Obj → List (Addr × Obj)} {d : Addr} {o : Obj} (N : News g L h news) (U : UpdF d o news gf) : News g L h [(d, o)] := by
  obtain ⟨pre, post, rfl, _, _, _⟩ := U.split
  intro p hp
  rw [List.mem_singleton.mp hp]
  exact N _ (List.mem_append_right _ (.head _))
theorem newsAfter {g h h' : Heap} {L : Addr} {news : List (Addr × Obj)} {gf : Obj → List (Addr × Obj)} {d : Addr} {o o' : Obj} (N : News g L h news) (U : UpdF d o news gf)
    (k : ∀ b x, h.get? b = some x → b ∉ [d] → h'.get? b = some x) (e : h'.get? d = some o') : News g L h' (gf o') := by
  obtain ⟨pre, post, rfl, hg, a, b⟩ := U.split
  rw [hg]
  intro p hp
  rcases List.mem_append.mp hp with q | q
  · have z := N p (List.mem_append_left _ q)
    exact ⟨k _ _ z.1 (by simpa using a p q), z.2⟩
  · rcases List.mem_cons.mp q with rfl | q
    · exact ⟨e, (N (d, o) (List.mem_append_right _ (.head _))).2⟩
    · have z := N p (List.mem_append_right _ (.tail _ q))
      exact ⟨k _ _ z.1 (by simpa using b p q), z.2⟩

/-- a call that leaves all of `mu` as it stands leaves the whole ledger -/
theorem newsAll {g g' h h' : Heap} {L : Addr} {news mu : List (Addr × Obj)} (N : News g L h news) (hs : ∀ p ∈ mu, p ∈ news) (k : ∀ b x, h.get? b = some x → b ∉ mu.map (·.1) → h'.get? b = some x) (NG : NewsG g' h' mu) : News g L h' news := by
  intro p hp
  have z := N p hp
  refine ⟨?_, z.2⟩
  by_cases q : p.1 ∈ mu.map (·.1)
  · obtain ⟨r, hr, e⟩ := List.mem_map.mp q
    have z2 := (N r (hs r hr)).1
    rw [e, z.1] at z2
    have z3 := (NG r hr).1
    rw [e, ← z2] at z3
    exact z3
  · exact k _ _ z.1 q

abbrev potObj (a b : Int) (ta tb : Tok) : Obj := listOf #[.int a ta, .int b tb] 0
structure PotOk (a b : Int) : Prop where
  a0 : 0 ≤ a
  b0 : 0 ≤ b
  b1 : b < 2147483171

section
universe u
variable {α : Type u} {a : α} {l : List α} {x0 x1 x2 x3 x4 x5 x6 x7 x8 x9 x10 x11 x12 x13 x14 x15 x16 x17 x18 x19 x20 x21 x22 x23 x24 x25 x26 x27 x28 x29 x30 x31 x32 x33 x34 x35 x36 x37 x38 x39 x40 x41 x42 x43 x44 x45 x46 x47 : α}
theorem mm0 : a ∈ a :: l := .head _
theorem mm1 : a ∈ x0 :: a :: l := .tail _ mm0
theorem mm2 : a ∈ x0 :: x1 :: a :: l := .tail _ mm1
theorem mm3 : a ∈ x0 :: x1 :: x2 :: a :: l := .tail _ mm2
theorem mm4 : a ∈ x0 :: x1 :: x2 :: x3 :: a :: l := .tail _ mm3
theorem mm5 : a ∈ x0 :: x1 :: x2 :: x3 :: x4 :: a :: l := .tail _ mm4
theorem mm6 : a ∈ x0 :: x1 :: x2 :: x3 :: x4 :: x5 :: a :: l := .tail _ mm5
theorem mm7 : a ∈ x0 :: x1 :: x2 :: x3 :: x4 :: x5 :: x6 :: a :: l := .tail _ mm6
theorem mm8 : a ∈ x0 :: x1 :: x2 :: x3 :: x4 :: x5 :: x6 :: x7 :: a :: l := .tail _ mm7
theorem mm9 : a ∈ x0 :: x1 :: x2 :: x3 :: x4 :: x5 :: x6 :: x7 :: x8 :: a :: l := .tail _ mm8
theorem mm10 : a ∈ x0 :: x1 :: x2 :: x3 :: x4 :: x5 :: x6 :: x7 :: x8 :: x9 :: a :: l := .tail _ mm9
theorem mm11 : a ∈ x0 :: x1 :: x2 :: x3 :: x4 :: x5 :: x6 :: x7 :: x8 :: x9 :: x10 :: a :: l := .tail _ mm10
theorem mm12 : a ∈ x0 :: x1 :: x2 :: x3 :: x4 :: x5 :: x6 :: x7 :: x8 :: x9 :: x10 :: x11 :: a :: l := .tail _ mm11
theorem mm13 : a ∈ x0 :: x1 :: x2 :: x3 :: x4 :: x5 :: x6 :: x7 :: x8 :: x9 :: x10 :: x11 :: x12 :: a :: l := .tail _ mm12
theorem mm14 : a ∈ x0 :: x1 :: x2 :: x3 :: x4 :: x5 :: x6 :: x7 :: x8 :: x9 :: x10 :: x11 :: x12 :: x13 :: a :: l := .tail _ mm13
theorem mm15 : a ∈ x0 :: x1 :: x2 :: x3 :: x4 :: x5 :: x6 :: x7 :: x8 :: x9 :: x10 :: x11 :: x12 :: x13 :: x14 :: a :: l := .tail _ mm14
theorem mm16 : a ∈ x0 :: x1 :: x2 :: x3 :: x4 :: x5 :: x6 :: x7 :: x8 :: x9 :: x10 :: x11 :: x12 :: x13 :: x14 :: x15 :: a :: l := .tail _ mm15
theorem mm17 : a ∈ x0 :: x1 :: x2 :: x3 :: x4 :: x5 :: x6 :: x7 :: x8 :: x9 :: x10 :: x11 :: x12 :: x13 :: x14 :: x15 :: x16 :: a :: l := .tail _ mm16
theorem mm18 : a ∈ x0 :: x1 :: x2 :: x3 :: x4 :: x5 :: x6 :: x7 :: x8 :: x9 :: x10 :: x11 :: x12 :: x13 :: x14 :: x15 :: x16 :: x17 :: a :: l := .tail _ mm17
theorem mm19 : a ∈ x0 :: x1 :: x2 :: x3 :: x4 :: x5 :: x6 :: x7 :: x8 :: x9 :: x10 :: x11 :: x12 :: x13 :: x14 :: x15 :: x16 :: x17 :: x18 :: a :: l := .tail _ mm18
theorem mm20 : a ∈ x0 :: x1 :: x2 :: x3 :: x4 :: x5 :: x6 :: x7 :: x8 :: x9 :: x10 :: x11 :: x12 :: x13 :: x14 :: x15 :: x16 :: x17 :: x18 :: x19 :: a :: l := .tail _ mm19
theorem mm21 : a ∈ x0 :: x1 :: x2 :: x3 :: x4 :: x5 :: x6 :: x7 :: x8 :: x9 :: x10 :: x11 :: x12 :: x13 :: x14 :: x15 :: x16 :: x17 :: x18 :: x19 :: x20 :: a :: l := .tail _ mm20
theorem mm22 : a ∈ x0 :: x1 :: x2 :: x3 :: x4 :: x5 :: x6 :: x7 :: x8 :: x9 :: x10 :: x11 :: x12 :: x13 :: x14 :: x15 :: x16 :: x17 :: x18 :: x19 :: x20 :: x21 :: a :: l := .tail _ mm21
theorem mm23 : a ∈ x0 :: x1 :: x2 :: x3 :: x4 :: x5 :: x6 :: x7 :: x8 :: x9 :: x10 :: x11 :: x12 :: x13 :: x14 :: x15 :: x16 :: x17 :: x18 :: x19 :: x20 :: x21 :: x22 :: a :: l := .tail _ mm22
theorem mm24 : a ∈ x0 :: x1 :: x2 :: x3 :: x4 :: x5 :: x6 :: x7 :: x8 :: x9 :: x10 :: x11 :: x12 :: x13 :: x14 :: x15 :: x16 :: x17 :: x18 :: x19 :: x20 :: x21 :: x22 :: x23 :: a :: l := .tail _ mm23
theorem mm25 : a ∈ x0 :: x1 :: x2 :: x3 :: x4 :: x5 :: x6 :: x7 :: x8 :: x9 :: x10 :: x11 :: x12 :: x13 :: x14 :: x15 :: x16 :: x17 :: x18 :: x19 :: x20 :: x21 :: x22 :: x23 :: x24 :: a :: l := .tail _ mm24
theorem mm26 : a ∈ x0 :: x1 :: x2 :: x3 :: x4 :: x5 :: x6 :: x7 :: x8 :: x9 :: x10 :: x11 :: x12 :: x13 :: x14 :: x15 :: x16 :: x17 :: x18 :: x19 :: x20 :: x21 :: x22 :: x23 :: x24 :: x25 :: a :: l := .tail _ mm25
theorem mm27 : a ∈ x0 :: x1 :: x2 :: x3 :: x4 :: x5 :: x6 :: x7 :: x8 :: x9 :: x10 :: x11 :: x12 :: x13 :: x14 :: x15 :: x16 :: x17 :: x18 :: x19 :: x20 :: x21 :: x22 :: x23 :: x24 :: x25 :: x26 :: a :: l := .tail _ mm26
theorem mm28 : a ∈ x0 :: x1 :: x2 :: x3 :: x4 :: x5 :: x6 :: x7 :: x8 :: x9 :: x10 :: x11 :: x12 :: x13 :: x14 :: x15 :: x16 :: x17 :: x18 :: x19 :: x20 :: x21 :: x22 :: x23 :: x24 :: x25 :: x26 :: x27 :: a :: l := .tail _ mm27
theorem mm29 : a ∈ x0 :: x1 :: x2 :: x3 :: x4 :: x5 :: x6 :: x7 :: x8 :: x9 :: x10 :: x11 :: x12 :: x13 :: x14 :: x15 :: x16 :: x17 :: x18 :: x19 :: x20 :: x21 :: x22 :: x23 :: x24 :: x25 :: x26 :: x27 :: x28 :: a :: l := .tail _ mm28
theorem mm30 : a ∈ x0 :: x1 :: x2 :: x3 :: x4 :: x5 :: x6 :: x7 :: x8 :: x9 :: x10 :: x11 :: x12 :: x13 :: x14 :: x15 :: x16 :: x17 :: x18 :: x19 :: x20 :: x21 :: x22 :: x23 :: x24 :: x25 :: x26 :: x27 :: x28 :: x29 :: a :: l := .tail _ mm29
theorem mm31 : a ∈ x0 :: x1 :: x2 :: x3 :: x4 :: x5 :: x6 :: x7 :: x8 :: x9 :: x10 :: x11 :: x12 :: x13 :: x14 :: x15 :: x16 :: x17 :: x18 :: x19 :: x20 :: x21 :: x22 :: x23 :: x24 :: x25 :: x26 :: x27 :: x28 :: x29 :: x30 :: a :: l := .tail _ mm30
theorem mm32 : a ∈ x0 :: x1 :: x2 :: x3 :: x4 :: x5 :: x6 :: x7 :: x8 :: x9 :: x10 :: x11 :: x12 :: x13 :: x14 :: x15 :: x16 :: x17 :: x18 :: x19 :: x20 :: x21 :: x22 :: x23 :: x24 :: x25 :: x26 :: x27 :: x28 :: x29 :: x30 :: x31 :: a :: l := .tail _ mm31
theorem mm33 : a ∈ x0 :: x1 :: x2 :: x3 :: x4 :: x5 :: x6 :: x7 :: x8 :: x9 :: x10 :: x11 :: x12 :: x13 :: x14 :: x15 :: x16 :: x17 :: x18 :: x19 :: x20 :: x21 :: x22 :: x23 :: x24 :: x25 :: x26 :: x27 :: x28 :: x29 :: x30 :: x31 :: x32 :: a :: l := .tail _ mm32
theorem mm34 : a ∈ x0 :: x1 :: x2 :: x3 :: x4 :: x5 :: x6 :: x7 :: x8 :: x9 :: x10 :: x11 :: x12 :: x13 :: x14 :: x15 :: x16 :: x17 :: x18 :: x19 :: x20 :: x21 :: x22 :: x23 :: x24 :: x25 :: x26 :: x27 :: x28 :: x29 :: x30 :: x31 :: x32 :: x33 :: a :: l := .tail _ mm33
theorem mm35 : a ∈ x0 :: x1 :: x2 :: x3 :: x4 :: x5 :: x6 :: x7 :: x8 :: x9 :: x10 :: x11 :: x12 :: x13 :: x14 :: x15 :: x16 :: x17 :: x18 :: x19 :: x20 :: x21 :: x22 :: x23 :: x24 :: x25 :: x26 :: x27 :: x28 :: x29 :: x30 :: x31 :: x32 :: x33 :: x34 :: a :: l := .tail _ mm34
theorem mm36 : a ∈ x0 :: x1 :: x2 :: x3 :: x4 :: x5 :: x6 :: x7 :: x8 :: x9 :: x10 :: x11 :: x12 :: x13 :: x14 :: x15 :: x16 :: x17 :: x18 :: x19 :: x20 :: x21 :: x22 :: x23 :: x24 :: x25 :: x26 :: x27 :: x28 :: x29 :: x30 :: x31 :: x32 :: x33 :: x34 :: x35 :: a :: l := .tail _ mm35
theorem mm37 : a ∈ x0 :: x1 :: x2 :: x3 :: x4 :: x5 :: x6 :: x7 :: x8 :: x9 :: x10 :: x11 :: x12 :: x13 :: x14 :: x15 :: x16 :: x17 :: x18 :: x19 :: x20 :: x21 :: x22 :: x23 :: x24 :: x25 :: x26 :: x27 :: x28 :: x29 :: x30 :: x31 :: x32 :: x33 :: x34 :: x35 :: x36 :: a :: l := .tail _ mm36
theorem mm38 : a ∈ x0 :: x1 :: x2 :: x3 :: x4 :: x5 :: x6 :: x7 :: x8 :: x9 :: x10 :: x11 :: x12 :: x13 :: x14 :: x15 :: x16 :: x17 :: x18 :: x19 :: x20 :: x21 :: x22 :: x23 :: x24 :: x25 :: x26 :: x27 :: x28 :: x29 :: x30 :: x31 :: x32 :: x33 :: x34 :: x35 :: x36 :: x37 :: a :: l := .tail _ mm37
theorem mm39 : a ∈ x0 :: x1 :: x2 :: x3 :: x4 :: x5 :: x6 :: x7 :: x8 :: x9 :: x10 :: x11 :: x12 :: x13 :: x14 :: x15 :: x16 :: x17 :: x18 :: x19 :: x20 :: x21 :: x22 :: x23 :: x24 :: x25 :: x26 :: x27 :: x28 :: x29 :: x30 :: x31 :: x32 :: x33 :: x34 :: x35 :: x36 :: x37 :: x38 :: a :: l := .tail _ mm38
theorem mm40 : a ∈ x0 :: x1 :: x2 :: x3 :: x4 :: x5 :: x6 :: x7 :: x8 :: x9 :: x10 :: x11 :: x12 :: x13 :: x14 :: x15 :: x16 :: x17 :: x18 :: x19 :: x20 :: x21 :: x22 :: x23 :: x24 :: x25 :: x26 :: x27 :: x28 :: x29 :: x30 :: x31 :: x32 :: x33 :: x34 :: x35 :: x36 :: x37 :: x38 :: x39 :: a :: l := .tail _ mm39
theorem mm41 : a ∈ x0 :: x1 :: x2 :: x3 :: x4 :: x5 :: x6 :: x7 :: x8 :: x9 :: x10 :: x11 :: x12 :: x13 :: x14 :: x15 :: x16 :: x17 :: x18 :: x19 :: x20 :: x21 :: x22 :: x23 :: x24 :: x25 :: x26 :: x27 :: x28 :: x29 :: x30 :: x31 :: x32 :: x33 :: x34 :: x35 :: x36 :: x37 :: x38 :: x39 :: x40 :: a :: l := .tail _ mm40
theorem mm42 : a ∈ x0 :: x1 :: x2 :: x3 :: x4 :: x5 :: x6 :: x7 :: x8 :: x9 :: x10 :: x11 :: x12 :: x13 :: x14 :: x15 :: x16 :: x17 :: x18 :: x19 :: x20 :: x21 :: x22 :: x23 :: x24 :: x25 :: x26 :: x27 :: x28 :: x29 :: x30 :: x31 :: x32 :: x33 :: x34 :: x35 :: x36 :: x37 :: x38 :: x39 :: x40 :: x41 :: a :: l := .tail _ mm41
theorem mm43 : a ∈ x0 :: x1 :: x2 :: x3 :: x4 :: x5 :: x6 :: x7 :: x8 :: x9 :: x10 :: x11 :: x12 :: x13 :: x14 :: x15 :: x16 :: x17 :: x18 :: x19 :: x20 :: x21 :: x22 :: x23 :: x24 :: x25 :: x26 :: x27 :: x28 :: x29 :: x30 :: x31 :: x32 :: x33 :: x34 :: x35 :: x36 :: x37 :: x38 :: x39 :: x40 :: x41 :: x42 :: a :: l := .tail _ mm42
theorem mm44 : a ∈ x0 :: x1 :: x2 :: x3 :: x4 :: x5 :: x6 :: x7 :: x8 :: x9 :: x10 :: x11 :: x12 :: x13 :: x14 :: x15 :: x16 :: x17 :: x18 :: x19 :: x20 :: x21 :: x22 :: x23 :: x24 :: x25 :: x26 :: x27 :: x28 :: x29 :: x30 :: x31 :: x32 :: x33 :: x34 :: x35 :: x36 :: x37 :: x38 :: x39 :: x40 :: x41 :: x42 :: x43 :: a :: l := .tail _ mm43
theorem mm45 : a ∈ x0 :: x1 :: x2 :: x3 :: x4 :: x5 :: x6 :: x7 :: x8 :: x9 :: x10 :: x11 :: x12 :: x13 :: x14 :: x15 :: x16 :: x17 :: x18 :: x19 :: x20 :: x21 :: x22 :: x23 :: x24 :: x25 :: x26 :: x27 :: x28 :: x29 :: x30 :: x31 :: x32 :: x33 :: x34 :: x35 :: x36 :: x37 :: x38 :: x39 :: x40 :: x41 :: x42 :: x43 :: x44 :: a :: l := .tail _ mm44
theorem mm46 : a ∈ x0 :: x1 :: x2 :: x3 :: x4 :: x5 :: x6 :: x7 :: x8 :: x9 :: x10 :: x11 :: x12 :: x13 :: x14 :: x15 :: x16 :: x17 :: x18 :: x19 :: x20 :: x21 :: x22 :: x23 :: x24 :: x25 :: x26 :: x27 :: x28 :: x29 :: x30 :: x31 :: x32 :: x33 :: x34 :: x35 :: x36 :: x37 :: x38 :: x39 :: x40 :: x41 :: x42 :: x43 :: x44 :: x45 :: a :: l := .tail _ mm45
theorem mm47 : a ∈ x0 :: x1 :: x2 :: x3 :: x4 :: x5 :: x6 :: x7 :: x8 :: x9 :: x10 :: x11 :: x12 :: x13 :: x14 :: x15 :: x16 :: x17 :: x18 :: x19 :: x20 :: x21 :: x22 :: x23 :: x24 :: x25 :: x26 :: x27 :: x28 :: x29 :: x30 :: x31 :: x32 :: x33 :: x34 :: x35 :: x36 :: x37 :: x38 :: x39 :: x40 :: x41 :: x42 :: x43 :: x44 :: x45 :: x46 :: a :: l := .tail _ mm46
end
theorem rm_k {dp n m un : Nat} {x : Option Value} {fs : Option (List Env)} {gd : Option (List Code)} {env : Env} (h : dp ≤ n) (e : Nat.ble (n + 2) m = true) : ((⟨x, dp, fs, gd, un⟩ : Around).deeper env).depth < m := Nat.lt_of_lt_of_le (Nat.add_lt_add_right (Nat.lt_succ_of_le h) 1) (Nat.le_of_ble_eq_true e)
theorem rm_u {dp n m un : Nat} {x : Option Value} {fs : Option (List Env)} {gd : Option (List Code)} {env : Env} (h : un ≤ n) (e : Nat.ble (n + 68) m = true) : ((⟨x, dp, fs, gd, un⟩ : Around).deeper env).units + 64 < m := Nat.lt_of_lt_of_le (Nat.add_lt_add_right (Nat.lt_succ_of_le h) 67) (Nat.le_of_ble_eq_true e)
theorem rm_le {a n k m : Nat} (h : a ≤ n) (e : Nat.ble (n + k) m = true) : a + k ≤ m := Nat.le_trans (Nat.add_le_add_right h k) (Nat.le_of_ble_eq_true e)
theorem len_two {a b n m : Nat} (h : a ≤ b) (g : b ≤ n) (e : Nat.ble n m = true) : a ≤ m := Nat.le_trans h (Nat.le_trans g (Nat.le_of_ble_eq_true e))
theorem len_three {a b n m : Nat} (h : a + 1 ≤ b) (g : b ≤ n) (e : Nat.ble n m = true) : a ≤ m := Nat.le_trans (Nat.le_of_succ_le h) (Nat.le_trans g (Nat.le_of_ble_eq_true e))
theorem le_up2 {a b : Nat} (h : a + 1 ≤ b) : a ≤ b + 1 := Nat.le_succ_of_le (Nat.le_of_succ_le h)
theorem snoc_le {α : Type} {l : List α} {x : α} {b : Nat} (h : l.length ≤ b) : (l ++ [x]).length ≤ b + 1 := by rw [List.length_append]; exact Nat.add_le_add_right h 1
theorem snoc_le2 {α : Type} {l : List α} {x : α} {b : Nat} (h : l.length + 1 ≤ b) : (l ++ [x]).length ≤ b + 1 := snoc_le (Nat.le_of_succ_le h)
example : True := by
  (k_with "k_room!" => first | (refine' rm_k ?h_z ?e_z; (case h_z => with_reducible assumption); (case e_z => rfl)) | ((try simp only [depth_under_make, depth_under_kw, depth_in1, depth_deeper, depth_caller]); show _ < 1000; (try dsimp only); omega))
  (k_with "ke_room!" => first | (refine' rm_u ?h_z ?e_z; (case h_z => with_reducible assumption); (case e_z => rfl)) | ((simp only [units_under_make, units_in1, units_deeper, Around.mark_units, units_caller]); show _ < 9900; (try dsimp only); omega))
  trivial

def ScoopPost (pot : Addr) (many : Int) (v : Value) (h' : Heap) : Prop :=
  ∃ r tr a' ta' b' tb', v = .int r tr ∧ 0 ≤ r ∧ r < many ∧ PotOk a' b' ∧ h'.get? pot = some (potObj a' b' ta' tb')

set_option maxRecDepth 100000 in
set_option maxHeartbeats 8000000 in
theorem scoop_spec {w : World} {mean : ExcName → Option Value} {mg mb : Str → Option Value} {dp un : Nat} {gd : Option (List Code)} {base g : Heap} {fs : List Env} {s : Shared}
    {pot : Addr} {a b many : Int} {ta tb tm : Tok} (G : Gd w mean mg mb ⟨none, dp, some fs, gd, un⟩ base fs g) (hx : Ext g s.heap)
    (hroom : dp ≤ 980) (hun : un ≤ 9000)
    (ok : PotOk a b) (hm : 1 ≤ many) (hm2 : many ≤ 8)
    (N : NewsG g s.heap [(pot, potObj a b ta tb)]) :
    codeAny (model PR w) ⟨none, dp, some fs, gd, un⟩ (.call (.ref 723) ⟨[.ref pot, .int many tm], []⟩) (Done s g (ScoopPost pot many)) s := by
  refine unbx ?_
  simp (discharger := (k_dflt (
      refine' enterG (binds := [(Str.ofString "pot", .ref pot), (Str.ofString "many", .int many tm)]) G hx N ?k6 ?k7 ?k8 ?k9 ?kB ?_ ?c2 ?c3 ?c4 ?c5
      case k6 => k_is
      case k7 => k_is
      case k8 => exact Nat.lt_of_le_of_lt hroom (by decide)
      case k9 => exact BindsTo.of_eq rfl
      case kB => exact locs rfl
      case c2 => exact rfl
      case c3 => exact rfl
      case c4 => exact rfl
      case c5 => decide
      intro L' h' F' N'
      have B' := G.B
      have X' := G.X
      have T' := G.T
      obtain ⟨ha, hb, hb2⟩ := ok
      try dsimp only
      (try k_fold)
      k_steps
      · rename Fr _ _ _ _ => F
        rename News _ _ _ _ => N
        rename (0 < _) => h0
        refine Done.of F ⟨_, _, _, _, _, _, rfl, Int.fmod_nonneg_of_pos _ (by omega), Int.fmod_lt_of_pos _ (by omega), ⟨?_, hb, hb2⟩, N.get (by k_mem)⟩
        dsimp at h0 ⊢
        rw [Int.fdiv_eq_ediv_of_nonneg _ (by omega)]
        exact Int.ediv_nonneg ha (by omega)
      · rename Fr _ _ _ _ => F
        rename News _ _ _ _ => N
        refine Done.of F ⟨_, _, _, _, _, _, rfl, Int.fmod_nonneg_of_pos _ (by omega), Int.fmod_lt_of_pos _ (by omega), ⟨ha, ?_, ?_⟩, N.get (by k_mem)⟩
        · exact Int.fmod_nonneg_of_pos _ (by omega)
        · exact Int.fmod_lt_of_pos _ (by omega)))) only [↓bx]

theorem call_scoop {w : World} {mean : ExcName → Option Value} {mg mb : Str → Option Value} {A₀ : Around} {dp un : Nat} {gd : Option (List Code)} {base g : Heap} {outer : List Env} {L : Addr} {m : Str → Option Value} {env : Env} {s : Shared} {E : Value → Shared → Prop} {Q : Value → Shared → Prop}
    {pot : Addr} {a b many : Int} {ta tb tm : Tok} {news : List (Addr × Obj)} {gf : Obj → List (Addr × Obj)}
    (B : Below A₀ base outer g) (X : (Mine.hd0.heap_1_1 w.params).In g) (T : Top PV LO mean mg mb g) (F : Fr g L s.heap m) (N : News g L s.heap news) (U : UpdF pot (potObj a b ta tb) news gf)
    (hf : env.frame = some L) (hke : env.scope.kind = .function) (hroom : dp ≤ 980) (hun : un ≤ 9000)
    (ok : PotOk a b) (hm : 1 ≤ many) (hm2 : many ≤ 8)
    (k : ∀ h' tk r tr a' ta' b' tb', Fr g L h' m → News g L h' (gf (potObj a' b' ta' tb')) → 0 ≤ r → r < many → PotOk a' b' → Q (.int r tr) { s with heap := h', toks := tk }) :
    wpAny (model PR w) ⟨none, dp, some (env :: outer), gd, un⟩ (call (.ref 723) [.ref pot, .int many tm]) Q E s := by
  refine callH (P := fun _ => ScoopPost pot many) [(pot, potObj a b ta tb)] B X T F rfl hf hke (newsOne N U) (fun g' G hx N' _ => scoop_spec G hx hroom hun ok hm hm2 N') ?_
  rintro v h' tk g' F' keep _ ⟨r, tr, a', ta', b', tb', rfl, h0, h1, h2, hp⟩
  exact k h' tk r tr a' ta' b' tb' F' (newsAfter N U keep hp) h0 h1 h2
example : True := by
  (k_with "MY room" => first | (refine' rm_le ?h_z ?e_z; (case h_z => with_reducible assumption); (case e_z => rfl)) | ((try simp only [depth_under_make, depth_under_kw, depth_in1, depth_deeper, depth_caller, units_under_make, units_in1, units_deeper, Around.mark_units, units_caller]); (try dsimp only); omega))
  (k_with "call ref!" => (k_here; (with_reducible show wpAny _ _ (call (Value.ref 723) _) _ _ _); k_dflt (refine' call_scoop ?k1_z ?k2_z ?k3_z ?k4_z ?k5_z ?U_z ?hf_z ?hk_z ?hr_z ?hu_z ?p1_z ?p4_z ?p5_z ?_; (case hf_z => exact rfl); (case hk_z => exact rfl); (case k1_z => k_asm); (case k2_z => k_asm); (case k3_z => k_asm); (case k4_z => k_asm); (case k5_z => k_asm); (case U_z => k_updF); (case hr_z => k_extra "MY room"); (case hu_z => k_extra "MY room"); (case p1_z => k_asm); (case p4_z => omega); (case p5_z => omega); k_whole); intro h' tk' r' tr' a' ta' b' tb' F' N' hr0' hr1' ok'; (try dsimp only at N'); (try k_sweep)))
  trivial

end
section
example : True := by
  w_top off
  trivial
theorem item_sym {w : World} {A : Around} {E : Value → Shared → Prop} {s : Shared} {value slice : PySem.Expr} {l : Addr} {vs : List Value} {k : Int} {u : Tok} {Q : Value → Shared → Prop}
    (hl : s.heap.IsList l vs.toArray) (h0 : 0 ≤ k) (hlt : k < vs.length) (hhi : vs.length ≤ 1000) (h : ∀ v, vs[k.toNat]? = some v → Q v s)
    (hs : subscripted slice false (.ref l) (.int k u) = operate [.ref l, .int k u] (getItem (.ref l) (.int k u)) := by with_unfolding_all rfl) :
    wpAny (model PR w) A (subscriptTail value slice (.ref l) (.int k u)) Q E s := by
  have hx : vs[k.toNat]? = some vs[k.toNat] := by simp
  exact tail_any hl.typeIs slot_list_getitem.lookup (wpAny_getItem_list hl h0 (by omega) (by simpa using hx) (h _ hx)) hs
theorem isListG {g h : Heap} {L l : Addr} {m : Str → Option Value} {its : Array Value} (F : Fr g L h m) (hl : g.IsList l its) : h.IsList l its := stays_list F.keep hl
theorem isListN {g h : Heap} {L l : Addr} {news : List (Addr × Obj)} {its : Array Value} {n : Nat} (N : News g L h news) (hm : (l, listOf its n) ∈ news) : h.IsList l its := ⟨_, (N _ hm).1, rfl, n, rfl⟩
theorem len_my {w : World} {A : Around} {E : Value → Shared → Prop} {s : Shared} {l : Addr} {vs : List Value} {Q : Value → Shared → Prop} (hl : s.heap.IsList l vs.toArray) (hfit : vs.length ≤ 1000)
    (h : Q (.int vs.length (s.toks + 1)) { s with toks := s.toks + 1 + 1 }) : wpAny (model PR w) A (call (.builtin "len") [.ref l]) Q E s :=
  len_list hl (by simp; omega) (by simpa using h)

example : True := by
  (k_with "MY isl" => first | exact isListN (by k_asm) (by k_mem) | exact isListG (by k_asm) (by k_asm))
  (k_with "call builtin:len!" => (k_here; (with_reducible show wpAny _ _ (call (Value.builtin "len") [Value.ref _]) _ _ _); refine len_my (by k_extra "MY isl") (by omega) ?_))
  (k_with "subscriptTail!" => (k_here; (with_reducible show wpAny _ _ (subscriptTail _ _ (Value.ref _) (Value.int _ _)) _ _ _); refine item_sym (by k_extra "MY isl") (by omega) (by omega) (by omega) ?_; intro v' hv'))
  trivial

def OnePost (pot : Addr) (vs : List Value) (v : Value) (h' : Heap) : Prop :=
  ∃ a' ta' b' tb', v ∈ vs ∧ PotOk a' b' ∧ h'.get? pot = some (potObj a' b' ta' tb')

set_option maxRecDepth 100000 in
set_option maxHeartbeats 8000000 in
theorem one_spec {w : World} {mean : ExcName → Option Value} {mg mb : Str → Option Value} {dp un : Nat} {gd : Option (List Code)} {base g : Heap} {fs : List Env} {s : Shared}
    {pot l : Addr} {a b : Int} {ta tb : Tok} {vs : List Value} (G : Gd w mean mg mb ⟨none, dp, some fs, gd, un⟩ base fs g) (hx : Ext g s.heap)
    (hroom : dp ≤ 970) (hun : un ≤ 8900)
    (ok : PotOk a b) (hl : g.IsList l vs.toArray) (hl1 : 1 ≤ vs.length) (hl2 : vs.length ≤ 8)
    (N : NewsG g s.heap [(pot, potObj a b ta tb)]) :
    codeAny (model PR w) ⟨none, dp, some fs, gd, un⟩ (.call (.ref 730) ⟨[.ref pot, .ref l], []⟩) (Done s g (OnePost pot vs)) s := by
  refine unbx ?_
  simp (discharger := (k_dflt (
      refine' enterG (binds := [(Str.ofString "pot", .ref pot), (Str.ofString "things", .ref l)]) G hx N ?k6 ?k7 ?k8 ?k9 ?kB ?_ ?c2 ?c3 ?c4 ?c5
      case k6 => k_is
      case k7 => k_is
      case k8 => exact Nat.lt_of_le_of_lt hroom (by decide)
      case k9 => exact BindsTo.of_eq rfl
      case kB => exact locs rfl
      case c2 => exact rfl
      case c3 => exact rfl
      case c4 => exact rfl
      case c5 => decide
      intro L' h' F' N'
      have B' := G.B
      have X' := G.X
      have T' := G.T
      try dsimp only
      (try k_fold)
      k_steps
      rename Fr _ _ _ _ => F
      rename News _ _ _ _ => N
      have hp := News.get N (List.Mem.head _)
      exact Done.of F ⟨_, _, _, _, List.mem_of_getElem? (by assumption), by assumption, hp⟩))) only [↓bx]

def isSel : Value → Bool
  | .none => true
  | .int _ _ => true
  | _ => false
theorem isSel_or {v : Value} (h : isSel v = true) : v = .none ∨ ∃ i t, v = .int i t := by
  cases v <;> first | exact .inl rfl | exact .inr ⟨_, _, rfl⟩ | cases h

theorem call_one {w : World} {mean : ExcName → Option Value} {mg mb : Str → Option Value} {A₀ : Around} {dp un : Nat} {gd : Option (List Code)} {base g : Heap} {outer : List Env} {L : Addr} {m : Str → Option Value} {env : Env} {s : Shared} {E : Value → Shared → Prop} {Q : Value → Shared → Prop}
    {pot l : Addr} {a b : Int} {ta tb : Tok} {vs : List Value} {n : Nat} {news : List (Addr × Obj)} {gf : Obj → List (Addr × Obj)}
    (B : Below A₀ base outer g) (X : (Mine.hd0.heap_1_1 w.params).In g) (T : Top PV LO mean mg mb g) (F : Fr g L s.heap m) (N : News g L s.heap news) (U : UpdF pot (potObj a b ta tb) news gf)
    (hl : (l, listOf vs.toArray n) ∈ news) (hne : l ≠ pot)
    (hf : env.frame = some L) (hke : env.scope.kind = .function) (hroom : dp ≤ 970) (hun : un ≤ 8900)
    (ok : PotOk a b) (hl1 : 1 ≤ vs.length) (hl2 : vs.length ≤ 8)
    (k : ∀ v h' tk a' ta' b' tb', v ∈ vs → Fr g L h' m → News g L h' (gf (potObj a' b' ta' tb')) → PotOk a' b' → Q v { s with heap := h', toks := tk }) :
    wpAny (model PR w) ⟨none, dp, some (env :: outer), gd, un⟩ (call (.ref 730) [.ref pot, .ref l]) Q E s := by
  refine callH (P := fun _ => OnePost pot vs) [(pot, potObj a b ta tb)] B X T F rfl hf hke (newsOne N U) (fun g' G hx N' kp => one_spec G hx hroom hun ok ⟨_, kp _ _ (N _ hl).1 (by simpa using hne), rfl, n, rfl⟩ hl1 hl2 N') ?_
  rintro v h' tk g' F' keep _ ⟨a', ta', b', tb', hv, h2, hp⟩
  exact k v h' tk a' ta' b' tb' hv F' (newsAfter N U keep hp) h2

theorem call_oneSel {w : World} {mean : ExcName → Option Value} {mg mb : Str → Option Value} {A₀ : Around} {dp un : Nat} {gd : Option (List Code)} {base g : Heap} {outer : List Env} {L : Addr} {m : Str → Option Value} {env : Env} {s : Shared} {E : Value → Shared → Prop} {Q : Value → Shared → Prop}
    {pot l : Addr} {a b : Int} {ta tb : Tok} {vs : List Value} {n : Nat} {news : List (Addr × Obj)} {gf : Obj → List (Addr × Obj)}
    (B : Below A₀ base outer g) (X : (Mine.hd0.heap_1_1 w.params).In g) (T : Top PV LO mean mg mb g) (F : Fr g L s.heap m) (N : News g L s.heap news) (U : UpdF pot (potObj a b ta tb) news gf)
    (hl : (l, listOf vs.toArray n) ∈ news) (hne : l ≠ pot)
    (hf : env.frame = some L) (hke : env.scope.kind = .function) (hroom : dp ≤ 970) (hun : un ≤ 8900)
    (ok : PotOk a b) (hl1 : 1 ≤ vs.length) (hl2 : vs.length ≤ 8) (hsel : vs.all isSel = true)
    (k1 : ∀ h' tk a' ta' b' tb', Fr g L h' m → News g L h' (gf (potObj a' b' ta' tb')) → PotOk a' b' → Q .none { s with heap := h', toks := tk })
    (k2 : ∀ i t h' tk a' ta' b' tb', Fr g L h' m → News g L h' (gf (potObj a' b' ta' tb')) → PotOk a' b' → Q (.int i t) { s with heap := h', toks := tk }) :
    wpAny (model PR w) ⟨none, dp, some (env :: outer), gd, un⟩ (call (.ref 730) [.ref pot, .ref l]) Q E s := by
  refine call_one B X T F N U hl hne hf hke hroom hun ok hl1 hl2 fun v h' tk a' ta' b' tb' hv F' N' ok' => ?_
  rcases isSel_or (List.all_eq_true.mp hsel v hv) with rfl | ⟨i, t, rfl⟩
  · exact k1 h' tk a' ta' b' tb' F' N' ok'
  · exact k2 i t h' tk a' ta' b' tb' F' N' ok'

example : True := by
  (k_with "call ref!" => (k_here; (with_reducible show wpAny _ _ (call (Value.ref 730) _) _ _ _); k_dflt (refine' call_oneSel ?k1_z ?k2_z ?k3_z ?k4_z ?k5_z ?U_z ?hl_z ?hne_z ?hf_z ?hk_z ?hr_z ?hu_z ?p1_z ?p4_z ?p5_z ?p6_z ?_ ?_; (case hf_z => exact rfl); (case hk_z => exact rfl); (case k1_z => k_asm); (case k2_z => k_asm); (case k3_z => k_asm); (case k4_z => k_asm); (case k5_z => k_asm); (case hl_z => k_mem); (case hne_z => k_ne); (case U_z => k_updF); (case hr_z => k_extra "MY room"); (case hu_z => k_extra "MY room"); (case p1_z => k_asm); (case p4_z => exact Nat.le_of_ble_eq_true rfl); (case p5_z => exact Nat.le_of_ble_eq_true rfl); (case p6_z => exact rfl); k_whole); all_goals (intros; rename News _ _ _ _ => N'; (try dsimp only at N'); (try k_sweep))))
  trivial

end
section
example : True := by
  w_top off
  k_with_none
  (k_with "ite!" => with_reducible (first | refine itT ?_ | refine itF ?_ | refine itNT ?_ | refine itNF ?_))
  (k_with "subscriptTail Name Constant ref str!" => (k_here; k_dflt (refine' itemN (knd := PySem.strKind _ _) ?N_z ?m_z ?d_z (strKind_is _ _ _ _) ?r_z ?_ ?s_z ?g_z; (case N_z => k_asm); (case m_z => k_mem); (case d_z => k_asm); (case r_z => rfl); (case s_z => with_unfolding_all rfl); (case g_z => (intro _; with_unfolding_all rfl)))))
  (k_with "subscriptTail Name Constant ref int!" => (k_here; first | k_extra "subscriptTail!" | k_dflt (refine' item_tupleT ?t_z ?a_z ?b_z ?c_z ?d_z ?_; (case t_z => exact News.isTup (by k_asm) (by k_mem)); (case a_z => decide); (case b_z => decide); (case c_z => rfl); (case d_z => rfl); k_whole)))
  (k_with "eval Name!" => (k_here; k_dflt (refine' nameX_L ?F_z ?v_z ?_ ?a_z ?b_z; (case F_z => k_asm); (case a_z => rfl); (case b_z => rfl); (case v_z => rfl); k_whole)))
  (k_with "exec Assign!" => ((with_reducible show wpAny _ _ (exec (Stmt.Assign [Expr.Name _ _] _ _) _) _ _ _); with_reducible refine wpAny_Assign_Name ?_))
  (k_with "MY rd" => first | exact RdArgs.nil | (refine' RdArgs.name ?x_z ?d_z ?v_z ?r_z; (case x_z => rfl); (case d_z => decide); (case v_z => rfl); (case r_z => k_extra "MY rd")) | (refine' RdArgs.str ?r_z; (case r_z => k_extra "MY rd")) | (refine' RdArgs.int ?r_z; (case r_z => k_extra "MY rd")) | (refine' RdArgs.bool ?r_z; (case r_z => k_extra "MY rd")) | (refine' RdArgs.non ?r_z; (case r_z => k_extra "MY rd")))
  (k_with "spliced!" => (k_here; (first | with_reducible show wpAny _ _ (spliced (backTo _ (starEach (Expr.Name _ _ :: _) _))) _ _ _ | with_reducible show wpAny _ _ (spliced (backTo _ (starEach (Expr.Constant _ _ _ :: _) _))) _ _ _); k_dflt (refine' args_rd ?F_z ?k_z ?r_z ?_; (case F_z => k_asm); (case k_z => rfl); (case r_z => k_extra "MY rd"); k_whole); (try dsimp only [List.cons_append, List.nil_append])))
  (k_with "eval Constant str!" => with_reducible refine const_str ?_)
  (k_with "eval Constant int!" => with_reducible refine const_int ?_)
  (k_with "storeName!" => (k_here; k_dflt (refine' storeN ?F_z ?N_z ?_ ?a_z ?b_z; (case F_z => k_asm); (case N_z => k_asm); (case a_z => rfl); (case b_z => rfl); k_whole; intro hq' Fq' Nq'; (try k_sweep))))
  (k_with "unpackItems ref!" => (k_here; k_dflt (refine' unpackN ?k1_z ?k2_z ?k3_z ?k4_z ?k5_z ?_; (case k1_z => k_asm); (case k2_z => k_asm); (case k3_z => kun_tup); (case k4_z => exact rfl); (case k5_z => exact rfl); k_whole); intro hq' Fq' Nq'; (try k_sweep)))
  (k_with "newTuple cons!" => (k_here; (with_reducible show wpAny _ _ (newTuple [_, _]) _ _ _); k_dflt (first | (refine' tupTo2 ?F_z ?N_z ?k_z ?x_z ?y_z ?hh_z ?_; (case F_z => k_asm); (case N_z => k_asm); (case k_z => rfl); (case x_z => rfl); (case y_z => rfl); (case hh_z => exact rfl); k_whole) | (refine' tupTo2s ?F_z ?N_z ?t_z ?k_z ?x_z ?y_z ?hh_z ?_; (case F_z => k_asm); (case N_z => k_asm); (case t_z => with_unfolding_all rfl); (case k_z => rfl); (case x_z => rfl); (case y_z => rfl); (case hh_z => exact rfl); k_whole)); intro hq' Fq' Nq'; (try k_sweep)))
  (k_with "eval Subscript!" => (k_here; (with_reducible show wpAny _ _ (eval (Expr.Subscript (Expr.Name _ _) (Expr.Constant (Const.str _) _ _) _) _) _ _ _); k_dflt (refine' subName ?F_z ?N_z ?k_z ?x_z ?b_z ?v_z ?p_z ?o_z ?l_z ?_; (case F_z => k_asm); (case N_z => k_asm); (case k_z => rfl); (case x_z => rfl); (case b_z => decide); (case v_z => rfl); (case p_z => k_mem); (case o_z => k_asm); (case l_z => rfl); k_whole)))
  (k_with "execs cons!" => (k_here; (first | (with_reducible refine execs_gen ?_; intro tq') | with_reducible refine wpAny_execs_cons ?_); (try k_fold)))
  (k_with "k_room!" => first | (refine' rm_k ?h_z ?e_z; (case h_z => with_reducible assumption); (case e_z => rfl)) | ((try simp only [depth_under_make, depth_under_kw, depth_in1, depth_deeper, depth_caller]); show _ < 1000; (try dsimp only); omega))
  (k_with "ke_room!" => first | (refine' rm_u ?h_z ?e_z; (case h_z => with_reducible assumption); (case e_z => rfl)) | ((simp only [units_under_make, units_in1, units_deeper, Around.mark_units, units_caller]); show _ < 9900; (try dsimp only); omega))
  (k_with "MY room" => first | (refine' rm_le ?h_z ?e_z; (case h_z => with_reducible assumption); (case e_z => rfl)) | ((try simp only [depth_under_make, depth_under_kw, depth_in1, depth_deeper, depth_caller, units_under_make, units_in1, units_deeper, Around.mark_units, units_caller]); (try dsimp only); omega))
  (k_with "call ref!" => (k_here; (with_reducible show wpAny _ _ (call (Value.ref 723) _) _ _ _); k_dflt (refine' call_scoop ?k1_z ?k2_z ?k3_z ?k4_z ?k5_z ?U_z ?hf_z ?hk_z ?hr_z ?hu_z ?p1_z ?p4_z ?p5_z ?_; (case hf_z => exact rfl); (case hk_z => exact rfl); (case k1_z => k_asm); (case k2_z => k_asm); (case k3_z => k_asm); (case k4_z => k_asm); (case k5_z => k_asm); (case U_z => k_updF); (case hr_z => k_extra "MY room"); (case hu_z => k_extra "MY room"); (case p1_z => k_asm); (case p4_z => omega); (case p5_z => omega); k_whole); intro h' tk' r' tr' a' ta' b' tb' F' N' hr0' hr1' ok'; (try dsimp only at N'); (try k_sweep)))
  (k_with "call ref!" => (k_here; (with_reducible show wpAny _ _ (call (Value.ref 730) _) _ _ _); k_dflt (refine' call_oneSel ?k1_z ?k2_z ?k3_z ?k4_z ?k5_z ?U_z ?hl_z ?hne_z ?hf_z ?hk_z ?hr_z ?hu_z ?p1_z ?p4_z ?p5_z ?p6_z ?_ ?_; (case hf_z => exact rfl); (case hk_z => exact rfl); (case k1_z => k_asm); (case k2_z => k_asm); (case k3_z => k_asm); (case k4_z => k_asm); (case k5_z => k_asm); (case hl_z => k_mem); (case hne_z => k_ne); (case U_z => k_updF); (case hr_z => k_extra "MY room"); (case hu_z => k_extra "MY room"); (case p1_z => k_asm); (case p4_z => exact Nat.le_of_ble_eq_true rfl); (case p5_z => exact Nat.le_of_ble_eq_true rfl); (case p6_z => exact rfl); k_whole); all_goals (intros; rename News _ _ _ _ => N'; (try dsimp only at N'); (try k_sweep))))
  trivial
/-- the values are data that `==` reads -/
def Rd (tl : List (Addr × Obj)) (vs : List Value) : Prop := ∃ ds, DatAll tl vs ds ∧ ∀ d ∈ ds, kqdOk 8 d = true
theorem Rd.mono {tl tl' : List (Addr × Obj)} {vs : List Value} (h : Rd tl vs) (hs : ∀ p ∈ tl, p ∈ tl') : Rd tl' vs := by
  obtain ⟨ds, a, b⟩ := h
  exact ⟨ds, a.mono hs, b⟩
theorem sub_cons {α : Type} {l r : List α} {x : α} (h : ∀ p ∈ l, p ∈ r) : ∀ p ∈ l, p ∈ x :: r := fun p hp => .tail _ (h p hp)

section
variable {w : World} {A : Around} {E : Value → Shared → Prop} {s : Shared} {g : Heap} {L a b D : Addr} {m : Str → Option Value} {news tl : List (Addr × Obj)} {n k : Nat} {v x : Value} {vs us : List Value} {Q : Value → Shared → Prop} {gf : Obj → List (Addr × Obj)}
theorem ne_nil_cons (N : News g L s.heap news) (ma : (a, listOf (v :: vs).toArray n) ∈ news) (mb : (b, listOf #[] k) ∈ news) (hd : Rd tl (v :: vs)) (sub : ∀ p ∈ tl, p ∈ news) (hu : A.units + 64 < cLine) (h : Q (.bool true) s) :
    wpAny (model PR w) A (compareOp .NotEq (.ref a) (.ref b)) Q E s := by
  obtain ⟨ds, hd, hk⟩ := hd
  refine kqd_ne N ma rfl rfl hd sub mb rfl rfl (DatAll.nil (news := [])) (List.forall_mem_nil _) hk (List.forall_mem_nil _) hu ?_
  cases hd
  rw [decide_eq_false (by simp)]
  exact h
theorem ne_nil_nil (N : News g L s.heap news) (ma : (a, listOf ([] : List Value).toArray n) ∈ news) (mb : (b, listOf #[] k) ∈ news) (hu : A.units + 64 < cLine) (h : Q (.bool false) s) :
    wpAny (model PR w) A (compareOp .NotEq (.ref a) (.ref b)) Q E s := by
  refine kqd_ne N ma rfl rfl (DatAll.nil (news := [])) (List.forall_mem_nil _) mb rfl rfl (DatAll.nil (news := [])) (List.forall_mem_nil _) (List.forall_mem_nil _) (List.forall_mem_nil _) hu ?_
  rw [decide_eq_true rfl]
  exact h
theorem eq_nil_cons (N : News g L s.heap news) (ma : (a, listOf (v :: vs).toArray n) ∈ news) (mb : (b, listOf #[] k) ∈ news) (hd : Rd tl (v :: vs)) (sub : ∀ p ∈ tl, p ∈ news) (hu : A.units + 64 < cLine) (h : Q (.bool false) s) :
    wpAny (model PR w) A (compareOp .Eq (.ref a) (.ref b)) Q E s := by
  obtain ⟨ds, hd, hk⟩ := hd
  refine kqd_eq N ma rfl rfl hd sub mb rfl rfl (DatAll.nil (news := [])) (List.forall_mem_nil _) hk (List.forall_mem_nil _) hu ?_
  cases hd
  rw [decide_eq_false (by simp)]
  exact h
theorem eq_nil_nil (N : News g L s.heap news) (ma : (a, listOf ([] : List Value).toArray n) ∈ news) (mb : (b, listOf #[] k) ∈ news) (hu : A.units + 64 < cLine) (h : Q (.bool true) s) :
    wpAny (model PR w) A (compareOp .Eq (.ref a) (.ref b)) Q E s := by
  refine kqd_eq N ma rfl rfl (DatAll.nil (news := [])) (List.forall_mem_nil _) mb rfl rfl (DatAll.nil (news := [])) (List.forall_mem_nil _) (List.forall_mem_nil _) (List.forall_mem_nil _) hu ?_
  rw [decide_eq_true rfl]
  exact h
theorem toUpd {d : Addr} {o o' : Obj} (U : UpdF d o news gf) : Upd d o o' news (gf o') := by
  induction U with
  | head h => exact .head h
  | tail h _ ih => exact .tail h ih
theorem my_pop0 {u : Tok} (F : Fr g L s.heap m) (N : News g L s.heap news) (U : UpdF D (listOf (v :: vs).toArray n) news gf) (hz : vs.length ≤ 1000)
    (h : ∀ h', Fr g L h' m → News g L h' (gf (listOf vs.toArray (n + 1))) → Q v { s with heap := h' }) : wpAny (model PR w) A (call (.builtin "list.pop") [.ref D, .int 0 u]) Q E s :=
  kl_popAt (k := 0) (p := []) F N rfl (by show seqIndex? 0 (vs.length + 1) = some 0; unfold seqIndex?; simp) rfl (toUpd U) (by simp [sizeLine_eq]; omega) h
theorem my_append (F : Fr g L s.heap m) (N : News g L s.heap news) (U : UpdF D (listOf vs.toArray n) news gf) (hz : vs.length ≤ 1000)
    (h : ∀ h', Fr g L h' m → News g L h' (gf (listOf (vs ++ [x]).toArray (n + 1))) → Q .none { s with heap := h' }) : wpAny (model PR w) A (call (.builtin "list.append") [.ref D, x]) Q E s :=
  append_K F N (toUpd U) (fun h' F' N' => h h' F' (by simpa using N')) (by simp [sizeLine_eq]; omega)
theorem my_len (N : News g L s.heap news) (hm : (a, listOf vs.toArray n) ∈ news) (hz : vs.length ≤ 1000)
    (h : Q (.int vs.length (s.toks + 1)) { s with toks := s.toks + 1 + 1 }) : wpAny (model PR w) A (call (.builtin "len") [.ref a]) Q E s :=
  len_my ⟨_, (N _ hm).1, rfl, n, rfl⟩ hz h
end

example : True := by
  (k_with "MY sub" => first | exact fun _ h => h | (refine sub_cons ?_; k_extra "MY sub"))
  (k_with "MY len" => first | with_reducible assumption | (refine' len_two ?h_z ?g_z ?e_z; (case h_z => assumption); (case g_z => with_reducible assumption); (case e_z => rfl)) | (refine' len_three ?h_z ?g_z ?e_z; (case h_z => assumption); (case g_z => with_reducible assumption); (case e_z => rfl)) | ((try simp only [List.length_append, List.length_cons, List.length_nil] at *); omega))
  (k_with "compareOp NotEq ref ref!" => (k_here; (with_reducible show wpAny _ _ (compareOp CmpOp.NotEq (Value.ref _) (Value.ref _)) _ _ _); k_dflt (first | (refine' ne_nil_cons ?N_z ?a_z ?b_z ?d_z ?s_z ?u_z ?_; (case N_z => k_asm); (case a_z => k_mem); (case b_z => k_mem); (case d_z => k_asm); (case s_z => k_extra "MY sub"); (case u_z => ke_room)) | (refine' ne_nil_nil ?N_z ?a_z ?b_z ?u_z ?_; (case N_z => k_asm); (case a_z => k_mem); (case b_z => k_mem); (case u_z => ke_room)))))
  (k_with "compareOp Eq ref ref!" => (k_here; (with_reducible show wpAny _ _ (compareOp CmpOp.Eq (Value.ref _) (Value.ref _)) _ _ _); k_dflt (first | (refine' eq_nil_cons ?N_z ?a_z ?b_z ?d_z ?s_z ?u_z ?_; (case N_z => k_asm); (case a_z => k_mem); (case b_z => k_mem); (case d_z => k_asm); (case s_z => k_extra "MY sub"); (case u_z => ke_room)) | (refine' eq_nil_nil ?N_z ?a_z ?b_z ?u_z ?_; (case N_z => k_asm); (case a_z => k_mem); (case b_z => k_mem); (case u_z => ke_room)))))
  (k_with "call builtin:list.pop!" => (k_here; k_dflt ((with_reducible show wpAny _ _ (call (Value.builtin _) [Value.ref _, Value.int _ _]) _ _ _); refine' my_pop0 ?F_z ?N_z ?U_z ?z_z ?_; (case F_z => k_asm); (case N_z => k_asm); (case U_z => k_updF); (case z_z => k_extra "MY len")); intro h' F' N'; (try dsimp only at N'); (try k_sweep)))
  (k_with "call builtin:list.append!" => (k_here; k_dflt ((with_reducible show wpAny _ _ (call (Value.builtin _) [Value.ref _, _]) _ _ _); refine' my_append ?F_z ?N_z ?U_z ?z_z ?_; (case F_z => k_asm); (case N_z => k_asm); (case U_z => k_updF); (case z_z => k_extra "MY len")); intro h' F' N'; (try dsimp only at N'); (try simp only [List.nil_append] at N'); (try k_sweep)))
  (k_with "call builtin:len!" => (k_here; (with_reducible show wpAny _ _ (call (Value.builtin "len") [Value.ref _]) _ _ _); k_dflt (refine' my_len ?N_z ?m_z ?z_z ?_; (case N_z => k_asm); (case m_z => k_mem); (case z_z => k_extra "MY len"))))
  trivial

end
section
example : True := by
  w_top off
  trivial
/-- the book's dict: its three lists -/
def IsBook (w : World) (oD : Obj) (k gv tk : Addr) : Prop :=
  Obj.IsDictOf (PySem.strKind PR w) oD [(Str.ofString "kept", Value.ref k), (Str.ofString "givers", Value.ref gv), (Str.ofString "takers", Value.ref tk)]

def sendR (rcv buf : List Value) (room : Int) : Bool := !rcv.isEmpty || decide ((buf.length : Int) < room)
def recvR (buf snd : List Value) : Bool := !buf.isEmpty || !snd.isEmpty

def RoPost (mu : List (Addr × Obj)) (r : Value) (g' : Heap) (v : Value) (h' : Heap) : Prop := NewsG g' h' mu ∧ v = r
theorem RoPost.of {s : Shared} {g : Heap} {mu news : List (Addr × Obj)} {r v : Value} {h : Heap} {L : Addr} {m : Str → Option Value} {tk : Nat} (F : Fr g L h m) (N : News g L h news) (hs : ∀ p ∈ mu, p ∈ news) (e : v = r) :
    Done s g (RoPost mu r g) (.ok (.ret v)) { s with heap := h, toks := tk } := Done.of F ⟨fun p hp => ⟨(N p (hs p hp)).1, (N p (hs p hp)).2.2⟩, e⟩

set_option maxRecDepth 100000 in
set_option maxHeartbeats 8000000 in
theorem ready_send {w : World} {mean : ExcName → Option Value} {mg mb : Str → Option Value} {dp un : Nat} {gd : Option (List Code)} {base g : Heap} {fs : List Env} {s : Shared}
    {D k gv tk : Addr} {oD : Obj} {tw tr : Tok} {room : Int} {n1 n2 n3 : Nat} {bufV sndV rcvV : List Value} {tl : List (Addr × Obj)}
    (G : Gd w mean mg mb ⟨none, dp, some fs, gd, un⟩ base fs g) (hx : Ext g s.heap)
    (hroom : dp ≤ 970) (hun : un ≤ 8900)
    (hb : IsBook w oD k gv tk) (rd1 : Rd tl bufV) (rd2 : Rd tl sndV) (rd3 : Rd tl rcvV) (l1 : bufV.length ≤ 100)
    (N : NewsG g s.heap ((D, oD) :: (k, listOf bufV.toArray n1) :: (gv, listOf sndV.toArray n2) :: (tk, listOf rcvV.toArray n3) :: tl)) :
    codeAny (model PR w) ⟨none, dp, some fs, gd, un⟩ (.call (.ref 737) ⟨[.str (Str.ofString "send") tw, .ref D, .int room tr], []⟩)
      (Done s g (RoPost ((D, oD) :: (k, listOf bufV.toArray n1) :: (gv, listOf sndV.toArray n2) :: (tk, listOf rcvV.toArray n3) :: tl) (.bool (sendR rcvV bufV room)) g)) s := by
  refine unbx ?_
  simp (discharger := (k_dflt (
      refine enterG (binds := [(Str.ofString "word", .str (Str.ofString "send") tw), (Str.ofString "book", .ref D), (Str.ofString "room", .int room tr)]) G hx N (by k_is) (by k_is) (by exact Nat.lt_of_le_of_lt hroom (by decide)) (by exact BindsTo.of_eq rfl) (by exact locs rfl) ?_ (by exact rfl) (by exact rfl) (by exact rfl) (by decide)
      intro L' h' F' N'
      have B' := G.B
      have X' := G.X
      have T' := G.T
      unfold IsBook at hb
      try dsimp only
      (try k_fold)
      cases rcvV with
      | nil =>
        k_steps
        rename Fr _ _ _ _ => F
        rename News _ _ _ _ => N
        exact RoPost.of F N (by k_extra "MY sub") (by simp [sendR])
      | cons r rs =>
        k_steps
        rename Fr _ _ _ _ => F
        rename News _ _ _ _ => N
        exact RoPost.of F N (by k_extra "MY sub") (by simp [sendR])))) only [↓bx]

set_option maxRecDepth 100000 in
set_option maxHeartbeats 8000000 in
theorem ready_recv {w : World} {mean : ExcName → Option Value} {mg mb : Str → Option Value} {dp un : Nat} {gd : Option (List Code)} {base g : Heap} {fs : List Env} {s : Shared}
    {D k gv tk : Addr} {oD : Obj} {tw tr : Tok} {room : Int} {n1 n2 n3 : Nat} {bufV sndV rcvV : List Value} {tl : List (Addr × Obj)}
    (G : Gd w mean mg mb ⟨none, dp, some fs, gd, un⟩ base fs g) (hx : Ext g s.heap)
    (hroom : dp ≤ 970) (hun : un ≤ 8900)
    (hb : IsBook w oD k gv tk) (rd1 : Rd tl bufV) (rd2 : Rd tl sndV) (rd3 : Rd tl rcvV) (l1 : bufV.length ≤ 100)
    (N : NewsG g s.heap ((D, oD) :: (k, listOf bufV.toArray n1) :: (gv, listOf sndV.toArray n2) :: (tk, listOf rcvV.toArray n3) :: tl)) :
    codeAny (model PR w) ⟨none, dp, some fs, gd, un⟩ (.call (.ref 737) ⟨[.str (Str.ofString "receive") tw, .ref D, .int room tr], []⟩)
      (Done s g (RoPost ((D, oD) :: (k, listOf bufV.toArray n1) :: (gv, listOf sndV.toArray n2) :: (tk, listOf rcvV.toArray n3) :: tl) (.bool (recvR bufV sndV)) g)) s := by
  refine unbx ?_
  simp (discharger := (k_dflt (
      refine enterG (binds := [(Str.ofString "word", .str (Str.ofString "receive") tw), (Str.ofString "book", .ref D), (Str.ofString "room", .int room tr)]) G hx N (by k_is) (by k_is) (by exact Nat.lt_of_le_of_lt hroom (by decide)) (by exact BindsTo.of_eq rfl) (by exact locs rfl) ?_ (by exact rfl) (by exact rfl) (by exact rfl) (by decide)
      intro L' h' F' N'
      have B' := G.B
      have X' := G.X
      have T' := G.T
      unfold IsBook at hb
      try dsimp only
      (try k_fold)
      cases bufV <;> cases sndV
      all_goals
        k_steps
        rename Fr _ _ _ _ => F
        rename News _ _ _ _ => N
        exact RoPost.of F N (by k_extra "MY sub") (by simp [recvR])))) only [↓bx]

theorem call_ready {w : World} {mean : ExcName → Option Value} {mg mb : Str → Option Value} {A₀ : Around} {dp un : Nat} {gd : Option (List Code)} {base g : Heap} {outer : List Env} {L : Addr} {m : Str → Option Value} {env : Env} {s : Shared} {E : Value → Shared → Prop} {Q : Value → Shared → Prop}
    {f : Value} {args : List Value} {r : Value} {mu news : List (Addr × Obj)}
    (spec : ∀ g', Gd w mean mg mb ⟨none, dp, some (env :: outer), gd, un⟩ base (env :: outer) g' → Ext g' s.heap → NewsG g' s.heap mu → codeAny (model PR w) ⟨none, dp, some (env :: outer), gd, un⟩ (.call f ⟨args, []⟩) (Done s g' (RoPost mu r g')) s)
    (B : Below A₀ base outer g) (X : (Mine.hd0.heap_1_1 w.params).In g) (T : Top PV LO mean mg mb g) (F : Fr g L s.heap m) (N : News g L s.heap news)
    (hs : ∀ p ∈ mu, p ∈ news) (hf : env.frame = some L) (hke : env.scope.kind = .function)
    (k : ∀ h' tk, Fr g L h' m → News g L h' news → Q r { s with heap := h', toks := tk }) :
    wpAny (model PR w) ⟨none, dp, some (env :: outer), gd, un⟩ (call f args) Q E s := by
  refine callH (P := RoPost mu r) mu B X T F rfl hf hke (fun p hp => N p (hs p hp)) (fun g' G hx N' _ => spec g' G hx N') ?_
  rintro v h' tk g' F' keep _ ⟨NG, rfl⟩
  exact k h' tk F' (newsAll N hs keep NG)

section
variable {w : World} {mean : ExcName → Option Value} {mg mb : Str → Option Value} {A₀ : Around} {dp un : Nat} {gd : Option (List Code)} {base g : Heap} {outer : List Env} {L : Addr} {m : Str → Option Value} {env : Env} {s : Shared} {E : Value → Shared → Prop} {Q : Value → Shared → Prop}
    {D k gv tk : Addr} {oD : Obj} {tw tr : Tok} {room : Int} {n1 n2 n3 : Nat} {bufV sndV rcvV : List Value} {tl news : List (Addr × Obj)}
theorem sub_four {α : Type} {a b c d : α} {l r : List α} (h1 : a ∈ r) (h2 : b ∈ r) (h3 : c ∈ r) (h4 : d ∈ r) (h : ∀ p ∈ l, p ∈ r) : ∀ p ∈ a :: b :: c :: d :: l, p ∈ r :=
  allc ⟨h1, allc ⟨h2, allc ⟨h3, allc ⟨h4, h⟩⟩⟩⟩
theorem call_ready_send (B : Below A₀ base outer g) (X : (Mine.hd0.heap_1_1 w.params).In g) (T : Top PV LO mean mg mb g) (F : Fr g L s.heap m) (N : News g L s.heap news)
    (hb : Obj.IsDictOf (PySem.strKind PR w) oD [(Str.ofString "kept", Value.ref k), (Str.ofString "givers", Value.ref gv), (Str.ofString "takers", Value.ref tk)])
    (h1 : (D, oD) ∈ news) (h2 : (k, listOf bufV.toArray n1) ∈ news) (h3 : (gv, listOf sndV.toArray n2) ∈ news) (h4 : (tk, listOf rcvV.toArray n3) ∈ news) (hs : ∀ p ∈ tl, p ∈ news)
    (hf : env.frame = some L) (hke : env.scope.kind = .function) (hroom : dp ≤ 970) (hun : un ≤ 8900)
    (rd1 : Rd tl bufV) (rd2 : Rd tl sndV) (rd3 : Rd tl rcvV) (l1 : bufV.length ≤ 100)
    (h : ∀ h' tk, Fr g L h' m → News g L h' news → Q (.bool (sendR rcvV bufV room)) { s with heap := h', toks := tk }) :
    wpAny (model PR w) ⟨none, dp, some (env :: outer), gd, un⟩ (call (.ref 737) [.str (Str.ofString "send") tw, .ref D, .int room tr]) Q E s :=
  call_ready (fun _ G hx N' => ready_send G hx hroom hun hb rd1 rd2 rd3 l1 N') B X T F N (sub_four h1 h2 h3 h4 hs) hf hke h
theorem call_ready_recv (B : Below A₀ base outer g) (X : (Mine.hd0.heap_1_1 w.params).In g) (T : Top PV LO mean mg mb g) (F : Fr g L s.heap m) (N : News g L s.heap news)
    (hb : Obj.IsDictOf (PySem.strKind PR w) oD [(Str.ofString "kept", Value.ref k), (Str.ofString "givers", Value.ref gv), (Str.ofString "takers", Value.ref tk)])
    (h1 : (D, oD) ∈ news) (h2 : (k, listOf bufV.toArray n1) ∈ news) (h3 : (gv, listOf sndV.toArray n2) ∈ news) (h4 : (tk, listOf rcvV.toArray n3) ∈ news) (hs : ∀ p ∈ tl, p ∈ news)
    (hf : env.frame = some L) (hke : env.scope.kind = .function) (hroom : dp ≤ 970) (hun : un ≤ 8900)
    (rd1 : Rd tl bufV) (rd2 : Rd tl sndV) (rd3 : Rd tl rcvV) (l1 : bufV.length ≤ 100)
    (h : ∀ h' tk, Fr g L h' m → News g L h' news → Q (.bool (recvR bufV sndV)) { s with heap := h', toks := tk }) :
    wpAny (model PR w) ⟨none, dp, some (env :: outer), gd, un⟩ (call (.ref 737) [.str (Str.ofString "receive") tw, .ref D, .int room tr]) Q E s :=
  call_ready (fun _ G hx N' => ready_recv G hx hroom hun hb rd1 rd2 rd3 l1 N') B X T F N (sub_four h1 h2 h3 h4 hs) hf hke h
end

example : True := by
  (k_with "call ref!" => (k_here; (with_reducible show wpAny _ _ (call (Value.ref 737) _) _ _ _); k_dflt (first | (refine' call_ready_send ?k1_z ?k2_z ?k3_z ?k4_z ?k5_z ?hb_z ?h1_z ?h2_z ?h3_z ?h4_z ?hs_z ?hf_z ?hk_z ?hr_z ?hu_z ?r1_z ?r2_z ?r3_z ?l1_z ?_; (case hf_z => exact rfl); (case hk_z => exact rfl); (case k1_z => k_asm); (case k2_z => k_asm); (case k3_z => k_asm); (case k4_z => k_asm); (case k5_z => k_asm); (case h1_z => k_mem); (case hb_z => k_asm); (case h2_z => k_mem); (case h3_z => k_mem); (case h4_z => k_mem); (case r1_z => k_asm); (case r2_z => k_asm); (case r3_z => k_asm); (case hs_z => k_extra "MY sub"); (case hr_z => k_extra "MY room"); (case hu_z => k_extra "MY room"); (case l1_z => k_extra "MY len"); k_whole) | (refine' call_ready_recv ?k1_z ?k2_z ?k3_z ?k4_z ?k5_z ?hb_z ?h1_z ?h2_z ?h3_z ?h4_z ?hs_z ?hf_z ?hk_z ?hr_z ?hu_z ?r1_z ?r2_z ?r3_z ?l1_z ?_; (case hf_z => exact rfl); (case hk_z => exact rfl); (case k1_z => k_asm); (case k2_z => k_asm); (case k3_z => k_asm); (case k4_z => k_asm); (case k5_z => k_asm); (case h1_z => k_mem); (case hb_z => k_asm); (case h2_z => k_mem); (case h3_z => k_mem); (case h4_z => k_mem); (case r1_z => k_asm); (case r2_z => k_asm); (case r3_z => k_asm); (case hs_z => k_extra "MY sub"); (case hr_z => k_extra "MY room"); (case hu_z => k_extra "MY room"); (case l1_z => k_extra "MY len"); k_whole)); intro h' tk' F' N'; (try k_sweep)))
  trivial

end
section
example : True := by
  w_top off
  trivial
abbrev chanD (w : World) (t1 t2 t3 t4 t5 : Tok) (room : Int) (tr : Tok) (b sq r : Addr) : Obj :=
  dictOf [⟨PyData.keyHash w.params (Str.ofString "room"), .str (Str.ofString "room") t1, .int room tr⟩, ⟨PyData.keyHash w.params (Str.ofString "buffer"), .str (Str.ofString "buffer") t2, .ref b⟩,
    ⟨PyData.keyHash w.params (Str.ofString "senders"), .str (Str.ofString "senders") t3, .ref sq⟩, ⟨PyData.keyHash w.params (Str.ofString "receivers"), .str (Str.ofString "receivers") t4, .ref r⟩,
    ⟨PyData.keyHash w.params (Str.ofString "closed"), .str (Str.ofString "closed") t5, .bool false⟩] 5
abbrev tupOf (vs : Array Value) (n : Nat) : Obj := { cls := .type "tuple", data := .seq vs n }

set_option maxRecDepth 100000 in
set_option maxHeartbeats 8000000 in
theorem case_send {w : World} {mean : ExcName → Option Value} {mg mb : Str → Option Value} {dp un : Nat} {gd : Option (List Code)} {base g : Heap} {fs : List Env} {s : Shared}
    {cs C dC b sq r : Addr} {t1 t2 t3 t4 t5 tr u1 u2 : Tok} {room : Int} {n0 n1 n2 n3 : Nat} {bufV sndV rcvV : List Value} {x : Value} {tl : List (Addr × Obj)}
    (G : Gd w mean mg mb ⟨none, dp, some fs, gd, un⟩ base fs g) (hx : Ext g s.heap)
    (hroom : dp ≤ 970) (hun : un ≤ 8900)
    (rd1 : Rd tl bufV) (rd2 : Rd tl sndV) (rd3 : Rd tl rcvV) (l1 : bufV.length ≤ 100)
    (N : NewsG g s.heap ((cs, tupOf #[.str (Str.ofString "send") u1, .ref C, x] n0) :: (C, instObj 433 dC) :: (dC, chanD w t1 t2 t3 t4 t5 room tr b sq r) :: (b, listOf bufV.toArray n1) :: (sq, listOf sndV.toArray n2) :: (r, listOf rcvV.toArray n3) :: tl)) :
    codeAny (model PR w) ⟨none, dp, some fs, gd, un⟩ (.call (.ref 28) ⟨[.ref cs], []⟩)
      (Done s g (RoPost ((cs, tupOf #[.str (Str.ofString "send") u1, .ref C, x] n0) :: (C, instObj 433 dC) :: (dC, chanD w t1 t2 t3 t4 t5 room tr b sq r) :: (b, listOf bufV.toArray n1) :: (sq, listOf sndV.toArray n2) :: (r, listOf rcvV.toArray n3) :: tl) (.bool (sendR rcvV bufV room)) g)) s := by
  refine unbx ?_
  simp (discharger := (k_dflt (
      refine enterG (binds := [(Str.ofString "case", .ref cs)]) G hx N (by k_is) (by k_is) (by exact Nat.lt_of_le_of_lt hroom (by decide)) (by exact BindsTo.of_eq rfl) (by exact locs rfl) ?_ (by exact rfl) (by exact rfl) (by exact rfl) (by decide)
      intro L' h' F' N'
      have B' := G.B
      have X' := G.X
      have T' := G.T
      try dsimp only
      (try k_fold)
      cases rcvV
      all_goals
        k_steps
        rename Fr _ _ _ _ => F
        rename News _ _ _ _ => N
        exact RoPost.of F N (by k_extra "MY sub") (by simp [sendR])))) only [↓bx]

set_option maxRecDepth 100000 in
set_option maxHeartbeats 8000000 in
theorem case_recv {w : World} {mean : ExcName → Option Value} {mg mb : Str → Option Value} {dp un : Nat} {gd : Option (List Code)} {base g : Heap} {fs : List Env} {s : Shared}
    {cs C dC b sq r : Addr} {t1 t2 t3 t4 t5 tr u1 u2 : Tok} {room : Int} {n0 n1 n2 n3 : Nat} {bufV sndV rcvV : List Value} {tl : List (Addr × Obj)}
    (G : Gd w mean mg mb ⟨none, dp, some fs, gd, un⟩ base fs g) (hx : Ext g s.heap)
    (hroom : dp ≤ 970) (hun : un ≤ 8900)
    (rd1 : Rd tl bufV) (rd2 : Rd tl sndV) (rd3 : Rd tl rcvV) (l1 : bufV.length ≤ 100)
    (N : NewsG g s.heap ((cs, tupOf #[.str (Str.ofString "receive") u1, .ref C] n0) :: (C, instObj 433 dC) :: (dC, chanD w t1 t2 t3 t4 t5 room tr b sq r) :: (b, listOf bufV.toArray n1) :: (sq, listOf sndV.toArray n2) :: (r, listOf rcvV.toArray n3) :: tl)) :
    codeAny (model PR w) ⟨none, dp, some fs, gd, un⟩ (.call (.ref 28) ⟨[.ref cs], []⟩)
      (Done s g (RoPost ((cs, tupOf #[.str (Str.ofString "receive") u1, .ref C] n0) :: (C, instObj 433 dC) :: (dC, chanD w t1 t2 t3 t4 t5 room tr b sq r) :: (b, listOf bufV.toArray n1) :: (sq, listOf sndV.toArray n2) :: (r, listOf rcvV.toArray n3) :: tl) (.bool (recvR bufV sndV)) g)) s := by
  refine unbx ?_
  simp (discharger := (k_dflt (
      refine enterG (binds := [(Str.ofString "case", .ref cs)]) G hx N (by k_is) (by k_is) (by exact Nat.lt_of_le_of_lt hroom (by decide)) (by exact BindsTo.of_eq rfl) (by exact locs rfl) ?_ (by exact rfl) (by exact rfl) (by exact rfl) (by decide)
      intro L' h' F' N'
      have B' := G.B
      have X' := G.X
      have T' := G.T
      try dsimp only
      (try k_fold)
      cases bufV <;> cases sndV
      all_goals
        k_steps
        rename Fr _ _ _ _ => F
        rename News _ _ _ _ => N
        exact RoPost.of F N (by k_extra "MY sub") (by simp [recvR])))) only [↓bx]

section
variable {w : World} {mean : ExcName → Option Value} {mg mb : Str → Option Value} {A₀ : Around} {dp un : Nat} {gd : Option (List Code)} {base g : Heap} {outer : List Env} {L : Addr} {m : Str → Option Value} {env : Env} {s : Shared} {E : Value → Shared → Prop} {Q : Value → Shared → Prop}
    {cs C dC b sq r : Addr} {t1 t2 t3 t4 t5 tr u1 u2 : Tok} {room : Int} {n0 n1 n2 n3 : Nat} {bufV sndV rcvV : List Value} {x : Value} {tl news : List (Addr × Obj)}
theorem sub_six {α : Type} {a b c d e f : α} {l r : List α} (h1 : a ∈ r) (h2 : b ∈ r) (h3 : c ∈ r) (h4 : d ∈ r) (h5 : e ∈ r) (h6 : f ∈ r) (h : ∀ p ∈ l, p ∈ r) : ∀ p ∈ a :: b :: c :: d :: e :: f :: l, p ∈ r :=
  sub_four h1 h2 h3 h4 (allc ⟨h5, allc ⟨h6, h⟩⟩)
theorem call_case_send (B : Below A₀ base outer g) (X : (Mine.hd0.heap_1_1 w.params).In g) (T : Top PV LO mean mg mb g) (F : Fr g L s.heap m) (N : News g L s.heap news)
    (h1 : (cs, tupOf #[.str (Str.ofString "send") u1, .ref C, x] n0) ∈ news) (h2 : (C, instObj 433 dC) ∈ news) (h3 : (dC, chanD w t1 t2 t3 t4 t5 room tr b sq r) ∈ news)
    (h4 : (b, listOf bufV.toArray n1) ∈ news) (h5 : (sq, listOf sndV.toArray n2) ∈ news) (h6 : (r, listOf rcvV.toArray n3) ∈ news) (hs : ∀ p ∈ tl, p ∈ news)
    (hf : env.frame = some L) (hke : env.scope.kind = .function) (hroom : dp ≤ 970) (hun : un ≤ 8900)
    (rd1 : Rd tl bufV) (rd2 : Rd tl sndV) (rd3 : Rd tl rcvV) (l1 : bufV.length ≤ 100)
    (h : ∀ h' tk, Fr g L h' m → News g L h' news → Q (.bool (sendR rcvV bufV room)) { s with heap := h', toks := tk }) :
    wpAny (model PR w) ⟨none, dp, some (env :: outer), gd, un⟩ (call (.ref 28) [.ref cs]) Q E s :=
  call_ready (fun _ G hx N' => case_send (u2 := 0) G hx hroom hun rd1 rd2 rd3 l1 N') B X T F N (sub_six h1 h2 h3 h4 h5 h6 hs) hf hke h
theorem call_case_recv (B : Below A₀ base outer g) (X : (Mine.hd0.heap_1_1 w.params).In g) (T : Top PV LO mean mg mb g) (F : Fr g L s.heap m) (N : News g L s.heap news)
    (h1 : (cs, tupOf #[.str (Str.ofString "receive") u1, .ref C] n0) ∈ news) (h2 : (C, instObj 433 dC) ∈ news) (h3 : (dC, chanD w t1 t2 t3 t4 t5 room tr b sq r) ∈ news)
    (h4 : (b, listOf bufV.toArray n1) ∈ news) (h5 : (sq, listOf sndV.toArray n2) ∈ news) (h6 : (r, listOf rcvV.toArray n3) ∈ news) (hs : ∀ p ∈ tl, p ∈ news)
    (hf : env.frame = some L) (hke : env.scope.kind = .function) (hroom : dp ≤ 970) (hun : un ≤ 8900)
    (rd1 : Rd tl bufV) (rd2 : Rd tl sndV) (rd3 : Rd tl rcvV) (l1 : bufV.length ≤ 100)
    (h : ∀ h' tk, Fr g L h' m → News g L h' news → Q (.bool (recvR bufV sndV)) { s with heap := h', toks := tk }) :
    wpAny (model PR w) ⟨none, dp, some (env :: outer), gd, un⟩ (call (.ref 28) [.ref cs]) Q E s :=
  call_ready (fun _ G hx N' => case_recv (u2 := 0) G hx hroom hun rd1 rd2 rd3 l1 N') B X T F N (sub_six h1 h2 h3 h4 h5 h6 hs) hf hke h
end

example : True := by
  (k_with "call ref!" => (k_here; (with_reducible show wpAny _ _ (call (Value.ref 28) _) _ _ _); k_dflt (first | (refine' call_case_send ?k1_z ?k2_z ?k3_z ?k4_z ?k5_z ?h1_z ?h2_z ?h3_z ?h4_z ?h5_z ?h6_z ?hs_z ?hf_z ?hk_z ?hr_z ?hu_z ?r1_z ?r2_z ?r3_z ?l1_z ?_; (case hf_z => exact rfl); (case hk_z => exact rfl); (case k1_z => k_asm); (case k2_z => k_asm); (case k3_z => k_asm); (case k4_z => k_asm); (case k5_z => k_asm); (case h1_z => k_mem); (case h2_z => k_mem); (case h3_z => k_mem); (case h4_z => k_mem); (case h5_z => k_mem); (case h6_z => k_mem); (case r1_z => k_asm); (case r2_z => k_asm); (case r3_z => k_asm); (case hs_z => k_extra "MY sub"); (case hr_z => k_extra "MY room"); (case hu_z => k_extra "MY room"); (case l1_z => k_extra "MY len"); k_whole) | (refine' call_case_recv ?k1_z ?k2_z ?k3_z ?k4_z ?k5_z ?h1_z ?h2_z ?h3_z ?h4_z ?h5_z ?h6_z ?hs_z ?hf_z ?hk_z ?hr_z ?hu_z ?r1_z ?r2_z ?r3_z ?l1_z ?_; (case hf_z => exact rfl); (case hk_z => exact rfl); (case k1_z => k_asm); (case k2_z => k_asm); (case k3_z => k_asm); (case k4_z => k_asm); (case k5_z => k_asm); (case h1_z => k_mem); (case h2_z => k_mem); (case h3_z => k_mem); (case h4_z => k_mem); (case h5_z => k_mem); (case h6_z => k_mem); (case r1_z => k_asm); (case r2_z => k_asm); (case r3_z => k_asm); (case hs_z => k_extra "MY sub"); (case hr_z => k_extra "MY room"); (case hu_z => k_extra "MY room"); (case l1_z => k_extra "MY len"); k_whole)); intro h' tk' F' N'; (try k_sweep)))
  trivial

end
section
example : True := by
  w_top off
  trivial
/-- what the comprehension keeps: the row's fourth place is not i -/
def selKeep (i : Int) : Value → Bool
  | .int j _ => j != i
  | _ => true
def objKeep (i : Int) (o : Obj) : Bool := match o.data with
  | .seq vs _ => ((vs[3]? : Option Value).map (selKeep i)).getD true
  | _ => true
def keepP (tl : List (Addr × Obj)) (i : Int) : Value → Bool
  | .ref a => ((tl.lookup a).map (objKeep i)).getD true
  | _ => true
/-- a row of four, its fourth a select or None -/
def IsRow (tl : List (Addr × Obj)) (v : Value) : Prop := ∃ a h x u sv n, v = .ref a ∧ (a, tupOf #[h, x, u, sv] n) ∈ tl ∧ isSel sv = true
theorem lookup_led {h : Heap} {tl : List (Addr × Obj)} {a : Addr} {o : Obj} (N : ∀ p ∈ tl, h.get? p.1 = some p.2) (hm : (a, o) ∈ tl) : tl.lookup a = some o := by
  induction tl with
  | nil => cases hm
  | cons p r ih =>
    obtain ⟨b, x⟩ := p
    by_cases e : a = b
    · subst e
      have h1 : h.get? a = some x := N (a, x) (.head _)
      have h2 : h.get? a = some o := N (a, o) hm
      rw [h1] at h2
      rw [List.lookup_cons, beq_self_eq_true]
      exact h2
    · have hm' : (a, o) ∈ r := by
        rcases List.mem_cons.mp hm with q | q
        · exact absurd (congrArg Prod.fst q) e
        · exact q
      rw [List.lookup_cons, beq_false_of_ne e]
      exact ih (fun p hp => N p (.tail _ hp)) hm'
theorem keepP_at {h : Heap} {tl : List (Addr × Obj)} {a : Addr} {x1 x2 x3 sv : Value} {n : Nat} {i : Int} (N : ∀ p ∈ tl, h.get? p.1 = some p.2) (hm : (a, tupOf #[x1, x2, x3, sv] n) ∈ tl) :
    keepP tl i (.ref a) = selKeep i sv := by
  show ((tl.lookup a).map (objKeep i)).getD true = selKeep i sv
  rw [lookup_led N hm]
  rfl

/-- the new address is none of the ledger's -/
def AllAp (l : Addr) (news : List (Addr × Obj)) : Prop := ∀ p ∈ news, p.1 ≠ l
theorem AllAp.get {l a : Addr} {o : Obj} {news : List (Addr × Obj)} (h : AllAp l news) (hm : (a, o) ∈ news) : a ≠ l := h _ hm
theorem paired_eq : ∀ {l₁ l₂ : List Value}, Paired (fun v y => v = y) l₁ l₂ → l₁ = l₂
  | _, _, .nil => rfl
  | _, _, .cons h t => by rw [h, paired_eq t]

/-- the ledger's tail: tuples alone -/
def TupLed (tl : List (Addr × Obj)) : Prop := ∀ p ∈ tl, p.2.cls = .type "tuple"

def FiltSrc (g : Heap) (L : Addr) (m : Str → Option Value) (c : Addr) (tl : List (Addr × Obj)) (i : Int) (Q : Value → Shared → Prop) (xv : Value) (s₁ : Shared) : Prop :=
  ∃ (l : Addr) (vs : List Value) (n : Nat) (news : List (Addr × Obj)) (oc : Obj) (t : Tok), xv = .ref l ∧ Fr g L s₁.heap m ∧ News g L s₁.heap news ∧ (l, listOf vs.toArray n) ∈ news ∧ (∀ v ∈ vs, IsRow tl v) ∧ (∀ p ∈ tl, p ∈ news) ∧ (c, oc) ∈ news ∧ oc.data = .cell (some (.int i t)) ∧ vs.length ≤ 1000 ∧
    (∀ h' tk l' n', Fr g L h' m → News g L h' ((l', listOf (vs.filter (keepP tl i)).toArray n') :: news) → AllAp l' news → Q (.ref l') { s₁ with heap := h', toks := tk })

section
variable {w : World} {A : Around} {E : Value → Shared → Prop} {s : Shared} {g : Heap} {L : Addr} {m : Str → Option Value} {env : Env} {Q : Value → Shared → Prop} {x y : Str} {px p2 p3 p4 p5 p6 p7 pos : Pos} {iter : PySem.Expr} {scope : Scope} {c : Addr} {k3 : Nat} {tl : List (Addr × Obj)} {i : Int}
theorem filter_comp {news : List (Addr × Obj)} {oc : Obj} {t : Tok} (_F₀ : Fr g L s.heap m) (_N₀ : News g L s.heap news) (_ht : TupLed tl) (_hc : (c, oc) ∈ news) (_hd : oc.data = .cell (some (.int i t))) (hclos : closureFor scope env = pure [(y, c)]) (hcell : ∀ z ∈ scope.names, z.2 ≠ .cell) (hkind : scope.kind = .function)
    (hnames : ∀ z ∈ scope.names, z.2 = .local → scope.names.lookup z.1 = some .local) (hx : scope.names.lookup x = some .local)
    (hkx : ∀ C, (compEnvC scope [(y, c)] C env).kindOf x = some .local) (hky : ∀ C, (compEnvC scope [(y, c)] C env).kindOf y = some .cell)
    (hdx : (x == ("__debug__" : Str)) = false) (hdy : (y == ("__debug__" : Str)) = false)
    (hh : A.handled = none) (hu : A.units + 64 < cLine)
    (h : wpAny (model PR w) A (eval iter env) (FiltSrc g L m c tl i Q) E s)
    (hs : ∀ x, foldedSetIterable iter env x = pure x) :
    wpAny (model PR w) A (eval (.ListComp (.Name x p2) [⟨.Name x px, iter, [.Compare (.Subscript (.Name x p3) (.Constant (.int 3) k3 p4) p5) [.NotEq] [.Name y p6] p7], 0⟩] scope pos) env) Q E s := by
  refine wpAny_ListComp_free (keepP tl i) (fun v y => v = y) hclos hcell hkind hnames hx (wpAny_mono h (fun xv s₁ h₁ => ?_) fun _ _ e => e) hs
  obtain ⟨l, vs, n, news, oc, t, rfl, F, N, hl, hrow, hsub, hc, hoc, hsz, k⟩ := h₁
  have hls : s₁.heap.IsList l vs.toArray := ⟨_, (N _ hl).1, rfl, n, rfl⟩
  have hne : l ≠ s₁.heap.objs.size := Nat.ne_of_lt (Heap.lt_size (N _ hl).1)
  refine wpAny_pyIter_list hls ?_
  have W := Walks.list (prog := PR) (w := w) hh s₁.heap.objs.size l hne vs.toArray
  have up : ∀ b o, s₁.heap.get? b = some o → (s₁.heap.push { cls := .type "list_iterator", data := .fields #[.ref l, rawInt (0 : Nat)] }).get? b = some o := fun b o e => Heap.get?_push_of_some _ e
  refine ⟨_, _, _, _, _, _, rfl, W, ?_, ⟨⟨_, Heap.get?_push_size _ rfl, rfl, rfl⟩, hls.at fun o e => Heap.get?_push_of_some _ e⟩, ?_, ?_, ?_⟩
  · simp [sizeLine_eq]; omega
  · intro b hb
    rw [Heap.size_push]
    rcases List.mem_cons.mp hb with rfl | hb
    · exact Nat.lt_succ_self _
    · rw [List.mem_singleton.mp hb]; exact Nat.lt_succ_of_lt (Heap.lt_size (N _ hl).1)
  · have live : ∀ (b : Addr) (o : Obj) (h₃ : Heap), (∀ b o, b ∉ [s₁.heap.objs.size] → (s₁.heap.push { cls := .type "list_iterator", data := .fields #[.ref l, rawInt (0 : Nat)] }).get? b = some o → h₃.get? b = some o) → s₁.heap.get? b = some o → h₃.get? b = some o :=
      fun b o h₃ hk e => hk b o (by simpa using Nat.ne_of_lt (Heap.lt_size e)) (Heap.get?_push_of_some _ e)
    constructor
    · intro C j v s₃ m₃ E' hC hP hn hm hk htk
      have hv : v ∈ vs := by
        have hP' : vs[j]? = some v := by simpa using hP
        exact List.mem_of_getElem? hP'
      obtain ⟨a, q1, q2, q3, sv, nn, rfl, ha, hsel⟩ := hrow v hv
      have ht3 : IsTup s₃.heap a ([q1, q2, q3, sv] : List Value).toArray := ⟨_, live a _ _ hk (N _ (hsub _ ha)).1, rfl, nn, rfl⟩
      have hcl : s₃.heap.IsCell c (some (.int i t)) := ⟨oc, live c _ _ hk (N _ hc).1, hoc⟩
      refine wpAny_tests_one (wpAny_isTrue_Compare1 (Subscript_ (wpAny_Name (wpAny_loadName_local (by simp [compEnvC, relabel, hkind]) (hkx C) hn hm ?_) hdx)) ?_)
      · refine wpAny_Constant_int ?_
        refine item_tupleT (j := 3) ht3 (by decide) (by decide) rfl rfl ?_
        refine wpAny_Name (wpAny_loadName_cell (by simp [compEnvC, relabel, hkind]) (hky C) (by simp [compEnvC]) hcl ?_) hdy
        have hk' := keepP_at (i := i) (fun p hp => (N p (hsub p hp)).1) ha
        rcases isSel_or hsel with rfl | ⟨j', t', rfl⟩
        · refine EqNone.ne_none_int (wpAny_truthy_bool ⟨by rw [hk']; rfl, ?_⟩)
          exact ⟨_, _, rfl, fun _ _ e => e⟩
        · refine PyProof.Rows.ne_int (wpAny_truthy_bool ⟨by rw [hk']; rfl, ?_⟩)
          exact ⟨_, _, rfl, fun _ _ e => e⟩
      · with_unfolding_all rfl
    · intro C j v s₃ m₃ E' hC hP _ hn hm hk htk
      exact wpAny_Name (wpAny_loadName_local (by simp [compEnvC, relabel, hkind]) (hkx C) hn hm ⟨rfl, _, _, rfl, fun _ _ e => e⟩) hdx
  · intro D h' tk ys vs' hD hlD hpD hlen hP hF hk
    have hv' : vs' = vs := by
      have := list_of_places (items := vs.toArray) (by simpa using hlen) (fun j v hj => hP j v hj)
      simpa using this
    rw [hv'] at hF
    have hys : ys.toList = vs.filter (keepP tl i) := (paired_eq hF).symm
    have hys' : ys = (vs.filter (keepP tl i)).toArray := by rw [← hys, Array.toArray_toList]
    obtain ⟨n', hn'⟩ := hpD
    have live : ∀ (b : Addr) (o : Obj), s₁.heap.get? b = some o → h'.get? b = some o :=
      fun b o e => hk b o (by simpa using Nat.ne_of_lt (Heap.lt_size e)) (Heap.get?_push_of_some _ e)
    have notD : ∀ (b : Addr) (o : Obj), s₁.heap.get? b = some o → b ≠ D := fun b o e q => by
      have := Heap.get?_push_of_some ({ cls := .type "list_iterator", data := .fields #[.ref l, rawInt (0 : Nat)] } : Obj) e
      rw [q] at this
      cases hD.symm.trans this
    obtain ⟨oL, es, ep, hL, hLd⟩ := F.ns
    refine k h' tk D n' ⟨⟨oL, es, ep, live _ _ hL, hLd⟩, fun b o e => live b o (F.keep b o e), F.above⟩ (fun p hp => ?_) (fun p hp => notD _ _ (N p hp).1)
    rcases List.mem_cons.mp hp with rfl | hp
    · refine ⟨by rw [hn', hys'], fun q => notD _ _ hL q.symm, ?_⟩
      cases e : g.get? D with
      | none => rfl
      | some o => exact absurd rfl (notD _ _ (F.keep _ _ e))
    · exact ⟨live _ _ (N p hp).1, (N p hp).2⟩
end

theorem offTup {g h : Heap} {L d : Addr} {o : Obj} {news tl : List (Addr × Obj)} (N : News g L h news) (ht : TupLed tl) (hs : ∀ p ∈ tl, p ∈ news) (hm : (d, o) ∈ news) (hc : o.cls ≠ .type "tuple") : ∀ p ∈ tl, p.1 ≠ d := by
  intro p hp e
  have h1 := (N p (hs p hp)).1
  have h2 := (N _ hm).1
  rw [e] at h1
  dsimp only at h2
  rw [h1] at h2
  exact hc ((congrArg Obj.cls (Option.some.inj h2)).symm.trans (ht p hp))
theorem cls_dict {w : World} {o : Obj} {kvs : List (Str × Value)} (h : Obj.IsDictOf (PySem.strKind PR w) o kvs) : o.cls ≠ .type "tuple" := by
  obtain ⟨es, ep, hx, _⟩ := h
  intro e
  rw [hx.1] at e
  exact absurd e (by decide)

/-- into a def whose locals may be cells -/
theorem enterGC {w : World} {mean : ExcName → Option Value} {mg mb : Str → Option Value} {A : Around} {base g : Heap} {fs : List Env} {s : Shared} {news : List (Addr × Obj)}
    {R : Result → Shared → Prop} {name qual : Str} {params : Arguments} {body : List Stmt} {scope : Scope} {dV kV doc pm cdv ct oc : Value} {an od : Option Addr} {osl : Array (Option Value)} {f : Addr} {args : Args} {binds : List (Str × Value)}
    (G : Gd w mean mg mb A base fs g) (hx : Ext g s.heap) (N : NewsG g s.heap news)
    (ho : (Mine.hd0.heap_1_1 w.params).lookup f = some ⟨oc, od, .func (fnOf name qual params body scope dV kV doc pm an cdv ct), osl⟩) (hcd : codeIn (Mine.hd0.heap_1_1 w.params) cdv qual = true) (hroom : A.depth < recursionLimit)
    (hbind : BindsTo s (fnOf name qual params body scope dV kV doc pm an cdv ct) args binds) (hkind : (binds.all fun y => scope.names.lookup y.1 == some .local || scope.names.lookup y.1 == some .cell) = true)
    (hnd : ((cellsFrom 0 scope.names []).map (·.1)).Nodup)
    (h : ∀ L' h₁ tk cells, Fr g L' h₁ (bindL (envOfC qual scope L' f cdv).kindOf binds fun _ => none) → News g L' h₁ (cells ++ news) →
      CellsAre (bindC (envOfC qual scope L' f cdv).kindOf binds fun _ => none) (cellsFrom (L' + 1) scope.names []) cells → (∀ p ∈ news, p.1 < L') →
      wpAny (model PR w) (A.deeper (envOfC qual scope L' f cdv)) (execs body (envOfC qual scope L' f cdv))
        (fun fl s' => R (.ok (.ret (match fl with | .ret v => v | _ => .none))) s')
        (fun e s' => wpAny (model PR w) (A.deeper (envOfC qual scope L' f cdv)) (leaving (envOfC qual scope L' f cdv) e) (fun _ s'' => R (.error e) s'') (fun e' s'' => R (.error e') s'') s')
        { s with heap := h₁, toks := tk })
    (hco : scope.isCoroutine = false) (hgen : scope.isGenerator = false) (hk : scope.kind = .function) : codeAny (model PR w) A (.call (.ref f) args) R s := by
  refine codeAny_call_function hroom (hx.stays _ _ (G.X _ _ ho)) rfl hco hgen rfl (codeRec_of (G.X.keeps hx.stays) hcd) (hbind _ _ _ _ ?_)
  refine wpAny_newFunctionEnv_cells hk (kindsX hkind _) fun env' he s' x => ?_
  subst he
  refine ⟨(G.T.nolimit.keeps hx.stays).keeps x.toInCall.keep, codeAny_func ?_⟩
  obtain ⟨h₁, tk, rfl, _⟩ := x.done
  have hk₁ := x.toInCall.keep
  obtain ⟨cells, NC, Y⟩ := Cl.news (h₀ := s.heap) (Nat.le_refl _) fun n c hm => ⟨x.cell n c (lookup_of_mem_nodup (cellsFrom_names scope.names 0 (s.heap.objs.size + 1) [] [] rfl ▸ hnd) hm), x.above n c hm⟩
  refine h s.heap.objs.size h₁ tk cells ⟨x.toInCall.ns, fun b o e => hk₁ b o (hx.stays b o e), hx.size⟩ (fun p hp => ?_) Y (fun p hp => Heap.lt_size (N p hp).1)
  rcases List.mem_append.mp hp with hp | hp
  · refine ⟨(NC p hp).1, (NC p hp).2.1, ?_⟩
    cases q : g.get? p.1 with
    | none => rfl
    | some o => have := hx.stays _ _ q; rw [(NC p hp).2.2] at this; cases this
  · exact ⟨hk₁ _ _ (N p hp).1, Nat.ne_of_lt (Heap.lt_size (N p hp).1), (N p hp).2⟩

theorem cls_ty {x : String} (h : (x == "tuple") = false) : Value.type x ≠ Value.type "tuple" := fun e => by cases (Value.type.inj e); exact absurd h (by decide)
theorem cls_rf {n : Addr} : Value.ref n ≠ Value.type "tuple" := nofun

example : True := by
  (k_with "k_mem!" => with_reducible assumption)
  (k_with "MY cls" => first | exact cls_dict (by with_reducible assumption) | exact cls_rf | exact cls_ty (by decide) | fail "MY cls")
  (k_with "k_all!" => with_reducible assumption)
  (k_with "k_all!" => (refine' offTup ?N_z ?t_z ?s_z ?m_z ?c_z; (case N_z => k_asm); (case t_z => with_reducible assumption); (case s_z => k_extra "MY sub"); (case m_z => k_mem); (case c_z => k_extra "MY cls")))
  (k_with "eval ListComp!" => (k_here; (with_reducible show wpAny _ _ (eval (Expr.ListComp (Expr.Name _ _) [⟨Expr.Name _ _, _, [Expr.Compare _ [CmpOp.NotEq] _ _], _⟩] _ _) _) _ _ _); k_dflt (refine' filter_comp ?F_z ?N_z ?t_z ?c_z ?d_z ?k1_z ?k2_z ?k3_z ?k4_z ?k5_z ?k6_z ?k7_z ?k8_z ?k9_z ?hh_z ?u_z ?_ ?k10_z; (case F_z => k_asm); (case N_z => k_asm); (case t_z => with_reducible assumption); (case k1_z => with_unfolding_all rfl); (case c_z => k_mem); (case d_z => k_asm); (case k2_z => decide); (case k3_z => rfl); (case k4_z => decide); (case k5_z => rfl); (case k6_z => intro _; rfl); (case k7_z => intro _; rfl); (case k8_z => decide); (case k9_z => decide); (case hh_z => exact rfl); (case u_z => ke_room); (case k10_z => intro _; with_unfolding_all rfl))))
  (k_with "FiltSrc!" => ((rename Fr _ _ _ _ => lF'); (rename News _ _ _ _ => lN'); (refine ⟨_, _, _, _, _, _, rfl, lF', lN', by k_mem, by (first | with_reducible assumption), by (k_extra "MY sub"), by k_mem, by k_asm, by (k_extra "MY len"), ?_⟩); clear lF' lN'; intro h' tk' l' n' F' N' ap'; (try k_sweep)))
  trivial

end
section
example : True := by
  w_top off
  trivial
/-- a sender's row, a receiver's row -/
def IsSRow (tl : List (Addr × Obj)) (v : Value) : Prop := ∃ a h x u sv n t1 t2 t3, v = .ref a ∧ (a, tupOf #[.int h t1, .int x t2, .int u t3, sv] n) ∈ tl ∧ isSel sv = true
def IsRRow (tl : List (Addr × Obj)) (v : Value) : Prop := ∃ a h u sv n t1 t3, v = .ref a ∧ (a, tupOf #[.int h t1, .none, .int u t3, sv] n) ∈ tl ∧ isSel sv = true
def isInt : Value → Bool
  | .int _ _ => true
  | _ => false
theorem IsSRow.row {tl : List (Addr × Obj)} {v : Value} (h : IsSRow tl v) : IsRow tl v := by
  obtain ⟨a, h, x, u, sv, n, t1, t2, t3, e, hm, hs⟩ := h
  exact ⟨a, _, _, _, sv, n, e, hm, hs⟩
theorem IsRRow.row {tl : List (Addr × Obj)} {v : Value} (h : IsRRow tl v) : IsRow tl v := by
  obtain ⟨a, h, u, sv, n, t1, t3, e, hm, hs⟩ := h
  exact ⟨a, _, _, _, sv, n, e, hm, hs⟩
theorem IsSRow.mono {tl tl' : List (Addr × Obj)} {v : Value} (h : IsSRow tl v) (hs : ∀ p ∈ tl, p ∈ tl') : IsSRow tl' v := by
  obtain ⟨a, h, x, u, sv, n, t1, t2, t3, e, hm, hs'⟩ := h
  exact ⟨a, _, _, _, sv, n, _, _, _, e, hs _ hm, hs'⟩
theorem IsRRow.mono {tl tl' : List (Addr × Obj)} {v : Value} (h : IsRRow tl v) (hs : ∀ p ∈ tl, p ∈ tl') : IsRRow tl' v := by
  obtain ⟨a, h, u, sv, n, t1, t3, e, hm, hs'⟩ := h
  exact ⟨a, _, _, sv, n, _, _, e, hs _ hm, hs'⟩
def oDat : Value → Dat
  | .int i _ => .int i
  | _ => .none
theorem sel_dat {tl : List (Addr × Obj)} {v : Value} (h : isSel v = true) : DatIn tl v (oDat v) := by
  rcases isSel_or h with rfl | ⟨i, t, rfl⟩
  · exact .none
  · exact .int i t
theorem sel_ok {v : Value} (h : isSel v = true) (n : Nat) : kqdOk n (oDat v) = true := by
  rcases isSel_or h with rfl | ⟨i, t, rfl⟩ <;> cases n <;> rfl
theorem rd_of {tl : List (Addr × Obj)} : ∀ {vs : List Value}, (∀ v ∈ vs, ∃ d, DatIn tl v d ∧ kqdOk 8 d = true) → Rd tl vs
  | [], _ => ⟨[], .nil, List.forall_mem_nil _⟩
  | v :: vs, h => by
    obtain ⟨d, h1, h2⟩ := h v (.head _)
    obtain ⟨ds, a, b⟩ := rd_of (vs := vs) fun x hx => h x (.tail _ hx)
    exact ⟨d :: ds, .cons h1 a, allc ⟨h2, b⟩⟩
theorem IsSRow.dat {tl : List (Addr × Obj)} {v : Value} (h : IsSRow tl v) : ∃ d, DatIn tl v d ∧ kqdOk 8 d = true := by
  obtain ⟨a, h, x, u, sv, n, t1, t2, t3, rfl, hm, hs⟩ := h
  refine ⟨.tuple [.int h, .int x, .int u, oDat sv], .tuple (vs := [.int h t1, .int x t2, .int u t3, sv]) hm (.cons (.int _ _) (.cons (.int _ _) (.cons (.int _ _) (.cons (sel_dat hs) .nil)))), ?_⟩
  have := sel_ok hs 7
  simp [kqdOk, this]
theorem IsRRow.dat {tl : List (Addr × Obj)} {v : Value} (h : IsRRow tl v) : ∃ d, DatIn tl v d ∧ kqdOk 8 d = true := by
  obtain ⟨a, h, u, sv, n, t1, t3, rfl, hm, hs⟩ := h
  refine ⟨.tuple [.int h, .none, .int u, oDat sv], .tuple (vs := [.int h t1, .none, .int u t3, sv]) hm (.cons (.int _ _) (.cons .none (.cons (.int _ _) (.cons (sel_dat hs) .nil)))), ?_⟩
  have := sel_ok hs 7
  simp [kqdOk, this]
theorem int_dat {tl : List (Addr × Obj)} {v : Value} (h : isInt v = true) : ∃ d, DatIn tl v d ∧ kqdOk 8 d = true := by
  cases v <;> first | exact ⟨_, .int _ _, rfl⟩ | cases h

theorem openS {tl : List (Addr × Obj)} {v : Value} {vs : List Value} (h : ∀ z ∈ v :: vs, IsSRow tl z) : ∃ a h x u sv n t1 t2 t3, v = .ref a ∧ (a, tupOf #[.int h t1, .int x t2, .int u t3, sv] n) ∈ tl ∧ isSel sv = true := h v (.head _)
theorem openR {tl : List (Addr × Obj)} {v : Value} {vs : List Value} (h : ∀ z ∈ v :: vs, IsRRow tl z) : ∃ a h u sv n t1 t3, v = .ref a ∧ (a, tupOf #[.int h t1, .none, .int u t3, sv] n) ∈ tl ∧ isSel sv = true := h v (.head _)
theorem openB {v : Value} {vs : List Value} (h : ∀ z ∈ v :: vs, isInt z = true) : ∃ i t, v = .int i t := by
  have := h v (.head _)
  cases v <;> first | exact ⟨_, _, rfl⟩ | cases this
/-- a select as a datum -/
def selP : Value → PyData
  | .int i _ => .int i
  | _ => .none
theorem sel_reads {h : Heap} {v : Value} (e : isSel v = true) : Reads h v (selP v) [] := by
  rcases isSel_or e with rfl | ⟨i, t, rfl⟩
  · exact .none
  · exact .int _ _
theorem selP_eqv (v : Value) : PyData.eqv (selP v) (selP v) = true := by
  cases v <;> simp [selP, PyData.eqv]
theorem item_row {w : World} {A : Around} {E : Value → Shared → Prop} {s : Shared} {g : Heap} {L a : Addr} {news tl : List (Addr × Obj)} {v0 v1 v2 v3 v : Value} {n : Nat} {value slice : PySem.Expr} {k : Int} {u : Tok} {j : Nat} {Q : Value → Shared → Prop}
    (N : News g L s.heap news) (hs : ∀ p ∈ tl, p ∈ news) (hm : (a, tupOf #[v0, v1, v2, v3] n) ∈ tl) (h0 : 0 ≤ k) (h1 : k < 4) (hj : seqIndex? k 4 = some j) (hx : [v0, v1, v2, v3][j]? = some v) (h : Q v s)
    (hs' : subscripted slice false (.ref a) (.int k u) = operate [.ref a, .int k u] (getItem (.ref a) (.int k u)) := by with_unfolding_all rfl) :
    wpAny (model PR w) A (subscriptTail value slice (.ref a) (.int k u)) Q E s :=
  item_tupleT (l := [v0, v1, v2, v3]) ⟨_, (N _ (hs _ hm)).1, rfl, n, rfl⟩ (by omega) (by omega) hj hx h hs'
theorem rowName {w : World} {A : Around} {E : Value → Shared → Prop} {h₀ h : Heap} {L b : Addr} {m : Str → Option Value} {cn : Str} {cs : Scope} {ccd : Value} {cl : List (Str × Addr)} {gs : Array GenState} {dr : Drawn} {tk : Nat} {os : OsState} {x : Str} {a : Addr} {news tl : List (Addr × Obj)} {v0 v1 v2 v3 v : Value} {n : Nat} {k : Int} {j : Nat} {xp cp pos : Pos} {ck : Nat} {Q : Value → Shared → Prop}
    (F : Fr h₀ L h m) (N : News h₀ L h news) (hk : cs.kind = .function) (hkx : (envX cn cs L b ccd cl).kindOf x = some .local) (hd : (x == ("__debug__" : Str)) = false) (hv : m x = some (.ref a))
    (hs : ∀ p ∈ tl, p ∈ news) (hm : (a, tupOf #[v0, v1, v2, v3] n) ∈ tl) (h0 : (decide (0 ≤ k) && decide (k < 4)) = true) (hj : seqIndex? k 4 = some j) (hx : [v0, v1, v2, v3][j]? = some v) (q : Q v ⟨h, gs, dr, tk + 1, os⟩) :
    wpAny (model PR w) A (eval (.Subscript (.Name x xp) (.Constant (.int k) ck cp) pos) (envX cn cs L b ccd cl)) Q E ⟨h, gs, dr, tk, os⟩ :=
  Subscript_ (nameX_L F hv (const_int (item_row N hs hm (of_decide_eq_true ((Bool.and_eq_true _ _ ▸ h0).1)) (of_decide_eq_true ((Bool.and_eq_true _ _ ▸ h0).2)) hj hx q (by with_unfolding_all rfl))) hk hkx hd)

section
variable {w : World} {mean : ExcName → Option Value} {mg mb : Str → Option Value} {A₀ : Around} {dp un : Nat} {gd : Option (List Code)} {base g : Heap} {outer : List Env} {L : Addr} {m : Str → Option Value} {env : Env} {s : Shared} {E : Value → Shared → Prop} {Q : Value → Shared → Prop}
    {D k gv tk : Addr} {oD : Obj} {tw tr : Tok} {room : Int} {n1 n2 n3 : Nat} {bufV sndV rcvV : List Value} {tl news : List (Addr × Obj)}
theorem call_ready_sendC (B : Below A₀ base outer g) (X : (Mine.hd0.heap_1_1 w.params).In g) (T : Top PV LO mean mg mb g) (F : Fr g L s.heap m) (N : News g L s.heap news)
    (hb : Obj.IsDictOf (PySem.strKind PR w) oD [(Str.ofString "kept", Value.ref k), (Str.ofString "givers", Value.ref gv), (Str.ofString "takers", Value.ref tk)])
    (h1 : (D, oD) ∈ news) (h2 : (k, listOf bufV.toArray n1) ∈ news) (h3 : (gv, listOf sndV.toArray n2) ∈ news) (h4 : (tk, listOf rcvV.toArray n3) ∈ news) (hs : ∀ p ∈ tl, p ∈ news)
    (hf : env.frame = some L) (hke : env.scope.kind = .function) (hroom : dp ≤ 970) (hun : un ≤ 8900)
    (rd1 : Rd tl bufV) (rd2 : Rd tl sndV) (rd3 : Rd tl rcvV) (l1 : bufV.length ≤ 100)
    (ha : ∀ v vs h' tk, rcvV = v :: vs → Fr g L h' m → News g L h' news → Q (.bool true) { s with heap := h', toks := tk })
    (hc : ∀ h' tk, rcvV = [] → (bufV.length : Int) < room → Fr g L h' m → News g L h' news → Q (.bool true) { s with heap := h', toks := tk })
    (hd : ∀ h' tk, rcvV = [] → ¬ (bufV.length : Int) < room → Fr g L h' m → News g L h' news → Q (.bool false) { s with heap := h', toks := tk }) :
    wpAny (model PR w) ⟨none, dp, some (env :: outer), gd, un⟩ (call (.ref 737) [.str (Str.ofString "send") tw, .ref D, .int room tr]) Q E s := by
  refine call_ready_send B X T F N hb h1 h2 h3 h4 hs hf hke hroom hun rd1 rd2 rd3 l1 fun h' tk F' N' => ?_
  cases rcvV with
  | cons v vs => exact ha v vs h' tk rfl F' N'
  | nil =>
    by_cases q : (bufV.length : Int) < room
    · have := hc h' tk rfl q F' N'
      simpa [sendR, q] using this
    · have := hd h' tk rfl q F' N'
      simpa [sendR, q] using this
theorem call_ready_recvC (B : Below A₀ base outer g) (X : (Mine.hd0.heap_1_1 w.params).In g) (T : Top PV LO mean mg mb g) (F : Fr g L s.heap m) (N : News g L s.heap news)
    (hb : Obj.IsDictOf (PySem.strKind PR w) oD [(Str.ofString "kept", Value.ref k), (Str.ofString "givers", Value.ref gv), (Str.ofString "takers", Value.ref tk)])
    (h1 : (D, oD) ∈ news) (h2 : (k, listOf bufV.toArray n1) ∈ news) (h3 : (gv, listOf sndV.toArray n2) ∈ news) (h4 : (tk, listOf rcvV.toArray n3) ∈ news) (hs : ∀ p ∈ tl, p ∈ news)
    (hf : env.frame = some L) (hke : env.scope.kind = .function) (hroom : dp ≤ 970) (hun : un ≤ 8900)
    (rd1 : Rd tl bufV) (rd2 : Rd tl sndV) (rd3 : Rd tl rcvV) (l1 : bufV.length ≤ 100)
    (ha : ∀ v vs u us h' tk, bufV = v :: vs → sndV = u :: us → Fr g L h' m → News g L h' news → Q (.bool true) { s with heap := h', toks := tk })
    (hc : ∀ v vs h' tk, bufV = v :: vs → sndV = [] → Fr g L h' m → News g L h' news → Q (.bool true) { s with heap := h', toks := tk })
    (hd : ∀ u us h' tk, bufV = [] → sndV = u :: us → Fr g L h' m → News g L h' news → Q (.bool true) { s with heap := h', toks := tk })
    (he : ∀ h' tk, bufV = [] → sndV = [] → Fr g L h' m → News g L h' news → Q (.bool false) { s with heap := h', toks := tk }) :
    wpAny (model PR w) ⟨none, dp, some (env :: outer), gd, un⟩ (call (.ref 737) [.str (Str.ofString "receive") tw, .ref D, .int room tr]) Q E s := by
  refine call_ready_recv B X T F N hb h1 h2 h3 h4 hs hf hke hroom hun rd1 rd2 rd3 l1 fun h' tk F' N' => ?_
  cases bufV with
  | cons v vs =>
    cases sndV with
    | cons u us => exact ha v vs u us h' tk rfl rfl F' N'
    | nil => exact hc v vs h' tk rfl rfl F' N'
  | nil =>
    cases sndV with
    | cons u us => exact hd u us h' tk rfl rfl F' N'
    | nil => exact he h' tk rfl rfl F' N'
end


/-- a stands ahead of b in the list -/
inductive Bef (a b : Addr) : List Addr → Prop
  | head {r} : b ∈ r → Bef a b (a :: r)
  | tail {x r} : Bef a b r → Bef a b (x :: r)
theorem Aps.get {a b : Addr} : ∀ {l : List Addr}, Aps l → Bef a b l → a ≠ b
  | _, h, .head hm => (h.1 _ hm).ne
  | _, h, .tail hb => Aps.get h.2 hb
/-- what a call has changed of `mu`: the objects `ch`; and what it has made -/
structure Chg (mu ch new : List (Addr × Obj)) (g' h' : Heap) : Prop where
  stay : ∀ q ∈ mu, q.1 ∉ ch.map (·.1) → h'.get? q.1 = some q.2
  now : ∀ q ∈ ch, h'.get? q.1 = some q.2
  made : NewsG g' h' new
  apart : ∀ p ∈ new, AllAp p.1 mu
section
variable {g g' h h' : Heap} {L d d2 : Addr} {o o' o2 o2' : Obj} {m : Str → Option Value} {news mu new : List (Addr × Obj)} {gf gf2 : Obj → List (Addr × Obj)}
theorem chg_at (N : News g L h news) (hs : ∀ p ∈ mu, p ∈ news) (k : ∀ b x, h.get? b = some x → b ∉ mu.map (·.1) → h'.get? b = some x) {ch : List (Addr × Obj)} (X : Chg mu ch new g' h') {p : Addr × Obj} (hp : p ∈ news) (hn : p.1 ∉ ch.map (·.1)) : h'.get? p.1 = some p.2 := by
  have z := N p hp
  by_cases q : p.1 ∈ mu.map (·.1)
  · obtain ⟨r, hr, e⟩ := List.mem_map.mp q
    have z2 := (N r (hs r hr)).1
    rw [e, z.1] at z2
    have z3 := X.stay r hr (by rw [e]; exact hn)
    rw [e, ← z2] at z3
    exact z3
  · exact k _ _ z.1 q
theorem newsChg1 (N : News g L h news) (U : UpdF d o news gf) (hs : ∀ p ∈ mu, p ∈ news) (k : ∀ b x, h.get? b = some x → b ∉ mu.map (·.1) → h'.get? b = some x) (X : Chg mu [(d, o')] new g' h') : News g L h' (gf o') := by
  obtain ⟨pre, post, rfl, hg, a, b⟩ := U.split
  rw [hg]
  intro p hp
  rcases List.mem_append.mp hp with q | q
  · have hm := List.mem_append_left ((d, o) :: post) q
    exact ⟨chg_at N hs k X hm (by simpa using a p q), (N p hm).2⟩
  · rcases List.mem_cons.mp q with rfl | q
    · exact ⟨X.now _ (.head _), (N (d, o) (List.mem_append_right _ (.head _))).2⟩
    · have hm := List.mem_append_right pre (List.mem_cons_of_mem (d, o) q)
      exact ⟨chg_at N hs k X hm (by simpa using b p q), (N p hm).2⟩
theorem newsChg0 (N : News g L h news) (hs : ∀ p ∈ mu, p ∈ news) (k : ∀ b x, h.get? b = some x → b ∉ mu.map (·.1) → h'.get? b = some x) (X : Chg mu [] new g' h') : News g L h' news :=
  fun p hp => ⟨chg_at N hs k X hp (by simp), (N p hp).2⟩
theorem newsChg2 (N : News g L h news) (U : UpdF d o news gf) (U2 : UpdF d2 o2 (gf o') gf2) (hs : ∀ p ∈ mu, p ∈ news) (k : ∀ b x, h.get? b = some x → b ∉ mu.map (·.1) → h'.get? b = some x) (X : Chg mu [(d, o'), (d2, o2')] new g' h') : News g L h' (gf2 o2') := by
  obtain ⟨pre, post, rfl, hg, a, b⟩ := U.split
  obtain ⟨pre2, post2, h2, hg2, a2, b2⟩ := U2.split
  rw [hg] at h2
  rw [hg2]
  have z1 := N (d, o) (List.mem_append_right _ (.head _))
  have key : ∀ p ∈ pre ++ (d, o') :: post, p.1 ≠ d2 → h'.get? p.1 = some p.2 ∧ p.1 ≠ L ∧ g.get? p.1 = none := by
    intro p hp hne
    rcases List.mem_append.mp hp with q | q
    · have hm := List.mem_append_left ((d, o) :: post) q
      exact ⟨chg_at N hs k X hm (by simpa using ⟨a p q, hne⟩), (N p hm).2⟩
    · rcases List.mem_cons.mp q with rfl | q
      · exact ⟨X.now _ (.head _), z1.2⟩
      · have hm := List.mem_append_right pre (List.mem_cons_of_mem (d, o) q)
        exact ⟨chg_at N hs k X hm (by simpa using ⟨b p q, hne⟩), (N p hm).2⟩
  have z2 : d2 ≠ L ∧ g.get? d2 = none := by
    have hm : (d2, o2) ∈ pre ++ (d, o') :: post := by rw [h2]; exact List.mem_append_right _ (.head _)
    rcases List.mem_append.mp hm with q | q
    · exact (N _ (List.mem_append_left _ q)).2
    · rcases List.mem_cons.mp q with q | q
      · cases q; exact z1.2
      · exact (N _ (List.mem_append_right _ (.tail _ q))).2
  intro p hp
  rcases List.mem_append.mp hp with q | q
  · exact key p (by rw [h2]; exact List.mem_append_left _ q) (a2 p q)
  · rcases List.mem_cons.mp q with rfl | q
    · exact ⟨X.now _ (.tail _ (.head _)), z2⟩
    · exact key p (by rw [h2]; exact List.mem_append_right _ (.tail _ q)) (b2 p q)
/-- what is made is apart from the whole ledger -/
theorem chg_apart (N : News g L h news) (hs : ∀ p ∈ mu, p ∈ news) (hg' : ∀ b x, h.get? b = some x → b ∉ mu.map (·.1) → g'.get? b = some x) {ch : List (Addr × Obj)} (X : Chg mu ch new g' h') {p : Addr × Obj} (hp : p ∈ new) : AllAp p.1 news := by
  intro q hq e
  by_cases z : q.1 ∈ mu.map (·.1)
  · obtain ⟨r, hr, e2⟩ := List.mem_map.mp z
    exact X.apart p hp r hr (e2.trans e)
  · have h1 := hg' _ _ (N q hq).1 z
    rw [e, (X.made p hp).2] at h1
    cases h1
end
theorem news_app {g h : Heap} {L : Addr} {a b : List (Addr × Obj)} (N₁ : News g L h a) (N₂ : News g L h b) : News g L h (a ++ b) := fun p hp => (List.mem_append.mp hp).elim (N₁ p) (N₂ p)
example : True := by
  (k_with "ked_read!" => exact sel_reads (by with_reducible assumption))
  (k_with "subscriptTail!" => (k_here; (with_reducible show wpAny _ _ (subscriptTail _ _ (Value.ref _) (Value.int _ _)) _ _ _); k_dflt (refine' item_row ?N_z ?s_z ?m_z ?a_z ?b_z ?c_z ?d_z ?_; (case N_z => k_asm); (case m_z => with_reducible assumption); (case s_z => k_extra "MY sub"); (case a_z => decide); (case b_z => decide); (case c_z => rfl); (case d_z => rfl))))
  (k_with "eval Subscript!" => (k_here; (with_reducible show wpAny _ _ (eval (Expr.Subscript (Expr.Name _ _) (Expr.Constant (Const.int _) _ _) _) _) _ _ _); k_dflt (refine' rowName ?F_z ?N_z ?k_z ?x_z ?b_z ?v_z ?s_z ?m_z ?a_z ?c_z ?d_z ?_; (case F_z => k_asm); (case N_z => k_asm); (case k_z => rfl); (case x_z => rfl); (case b_z => decide); (case v_z => rfl); (case m_z => with_reducible assumption); (case s_z => k_extra "MY sub"); (case a_z => decide); (case c_z => rfl); (case d_z => rfl); k_whole)))
  (k_with "k_memK!" => first | (refine Bef.head ?_; k_memK) | (refine Bef.tail ?_; k_memK))
  (k_with "k_ne!" => (refine neN ?_; (try dsimp only); first | exact Aps.get (by with_reducible assumption) (by k_memK) | exact (Aps.get (by with_reducible assumption) (by k_memK)).symm | exact AllAp.get (by with_reducible assumption) (by k_memK) | exact (AllAp.get (by with_reducible assumption) (by k_memK)).symm | omega))
  trivial

end
section
example : True := by
  w_top off
  trivial
theorem allLt_get {d a : Addr} {o : Obj} : ∀ {l : List (Addr × Obj)}, AllLt d l → (a, o) ∈ l → a < d
  | [], _, h => nomatch h
  | _ :: _, h, hm => by
    rcases List.mem_cons.mp hm with q | q
    · cases q; exact h.1
    · exact allLt_get h.2 q
structure LtS (d : Addr) (l : List (Addr × Obj)) : Prop where
  h : AllLt d l
structure Off3S (I C D : Addr) (l : List (Addr × Obj)) : Prop where
  h : LCg.Off3 I C D l
structure Off1S (D : Addr) (l : List (Addr × Obj)) : Prop where
  h : LCg.Off1 D l
theorem ltS_of {d : Addr} {l : List (Addr × Obj)} (h : ∀ p ∈ l, p.1 < d) : LtS d l := ⟨allLt_of h⟩
theorem allLt_ne {d a : Addr} {o : Obj} {l : List (Addr × Obj)} (h : LtS d l) (hm : (a, o) ∈ l) : a ≠ d := Nat.ne_of_lt (allLt_get h.h hm)
theorem allLt_ne2 {d x a : Addr} {o : Obj} {l : List (Addr × Obj)} (e : @LT.lt Nat _ d x) (h : LtS d l) (hm : (a, o) ∈ l) : a ≠ x := Nat.ne_of_lt (Nat.lt_trans (allLt_get h.h hm) e)
theorem ne_lt {a b : Addr} (h : @LT.lt Nat _ a b) : a ≠ b := Nat.ne_of_lt h
theorem off3_i {I C D a : Addr} {o : Obj} {l : List (Addr × Obj)} (h : Off3S I C D l) (hm : (a, o) ∈ l) : a ≠ I := (h.h.mem _ hm).1
theorem off3_c {I C D a : Addr} {o : Obj} {l : List (Addr × Obj)} (h : Off3S I C D l) (hm : (a, o) ∈ l) : a ≠ C := (h.h.mem _ hm).2.1
theorem off3_d {I C D a : Addr} {o : Obj} {l : List (Addr × Obj)} (h : Off3S I C D l) (hm : (a, o) ∈ l) : a ≠ D := (h.h.mem _ hm).2.2
theorem off1_get {D a : Addr} {o : Obj} : ∀ {l : List (Addr × Obj)}, LCg.Off1 D l → (a, o) ∈ l → a ≠ D
  | [], _, h => nomatch h
  | _ :: _, h, hm => by
    rcases List.mem_cons.mp hm with q | q
    · cases q; exact h.1
    · exact off1_get h.2 q
theorem off1_d {D a : Addr} {o : Obj} {l : List (Addr × Obj)} (h : Off1S D l) (hm : (a, o) ∈ l) : a ≠ D := off1_get h.h hm
structure Ap3 (I C D : Addr) : Prop where
  ic : I ≠ C
  id : I ≠ D
  cd : C ≠ D
theorem Ap3.of {I C D : Addr} (h : (@Ne Nat I C) ∧ (@Ne Nat I D) ∧ (@Ne Nat C D)) : Ap3 I C D := ⟨h.1, h.2.1, h.2.2⟩
theorem ltS_all {d : Addr} {l : List (Addr × Obj)} (h : LtS d l) : ∀ p ∈ l, p.1 ≠ d := fun p hp => allLt_ne (o := p.2) h hp
theorem allAp_all {d : Addr} {l : List (Addr × Obj)} (h : AllAp d l) : ∀ p ∈ l, p.1 ≠ d := h
example : True := by
  (k_with "k_all!" => first | exact ltS_all (by with_reducible assumption) | exact allAp_all (by with_reducible assumption))
  (k_with "k_in!" => first | with_reducible assumption | exact Frag.In.keeps (by with_reducible assumption) (Fr.keep (by with_reducible assumption)))
  trivial
local macro_rules | `(tactic| k_lt $h:ident) => `(tactic| (replace $h := ltS_of $h))
example : True := by
  (k_with "MY lt" => with_reducible assumption)
  (k_with "k_ne!" => (refine neN ?_; (try dsimp only); first | exact allLt_ne (by with_reducible assumption) (by k_mem) | exact (allLt_ne (by with_reducible assumption) (by k_mem)).symm | exact ne_lt (by with_reducible assumption) | exact (ne_lt (by with_reducible assumption)).symm | exact allLt_ne2 (by with_reducible assumption) (by with_reducible assumption) (by k_mem) | exact (allLt_ne2 (by with_reducible assumption) (by with_reducible assumption) (by k_mem)).symm | exact Aps.get (by with_reducible assumption) (by k_memK) | exact (Aps.get (by with_reducible assumption) (by k_memK)).symm | exact AllAp.get (by with_reducible assumption) (by k_mem) | exact (AllAp.get (by with_reducible assumption) (by k_mem)).symm | exact off3_i (by with_reducible assumption) (by k_mem) | exact off3_c (by with_reducible assumption) (by k_mem) | exact off3_d (by with_reducible assumption) (by k_mem) | exact (off3_i (by with_reducible assumption) (by k_mem)).symm | exact (off3_c (by with_reducible assumption) (by k_mem)).symm | exact (off3_d (by with_reducible assumption) (by k_mem)).symm | exact off1_d (by with_reducible assumption) (by k_mem) | exact (off1_d (by with_reducible assumption) (by k_mem)).symm | exact Ap3.ic (by with_reducible assumption) | exact Ap3.id (by with_reducible assumption) | exact Ap3.cd (by with_reducible assumption) | exact (Ap3.ic (by with_reducible assumption)).symm | exact (Ap3.id (by with_reducible assumption)).symm | exact (Ap3.cd (by with_reducible assumption)).symm | omega))
  (k_with "CompRest!" => (with_unfolding_all first | (refine LCg.CompRest.succ ?_; intro v' I' oI' C' oC' D' m' h' tk' E' hv' hC' hx' F' N' off' ne'; (first | lcg_open hv' | (obtain ⟨t9', hv9'⟩ := hv'; subst hv9')); (replace ne' := Ap3.of ne'); (replace off' := Off3S.mk off')) | refine LCg.CompRest.zero ?_))
  (k_with "CompRestT!" => (with_unfolding_all first | (refine LCt.CompRestT.succ ?_; intro v' I' oI' C' oC' D' m' h' tk' E' hv' hC' hx' F' N' off' ne'; (first | lcg_open hv' | (obtain ⟨t9', hv9'⟩ := hv'; subst hv9')); (replace ne' := Ap3.of ne'); (replace off' := Off3S.mk off')) | refine LCt.CompRestT.zero ?_))
  (k_with "FinE!" => ((unfold LCg.FinE); intro D' h' tk' F' N' o1'; (replace o1' := Off1S.mk o1'); (try simp only [List.nil_append, List.cons_append] at N'); (try dsimp only)))
  (k_with "FinA!" => ((unfold LCg.FinA); intro D' h' tk' F' N' o1'; (replace o1' := Off1S.mk o1'); (try simp only [List.nil_append, List.cons_append] at N'); (try dsimp only)))
  trivial

end
section
example : True := by
  w_top off
  k_with_none
  (k_with "ite!" => with_reducible (first | refine itT ?_ | refine itF ?_ | refine itNT ?_ | refine itNF ?_))
  (k_with "subscriptTail Name Constant ref str!" => (k_here; k_dflt (refine' itemN (knd := PySem.strKind _ _) ?N_z ?m_z ?d_z (strKind_is _ _ _ _) ?r_z ?_ ?s_z ?g_z; (case N_z => k_asm); (case m_z => k_mem); (case d_z => k_asm); (case r_z => rfl); (case s_z => with_unfolding_all rfl); (case g_z => (intro _; with_unfolding_all rfl)))))
  (k_with "subscriptTail Name Constant ref int!" => (k_here; first | k_extra "subscriptTail!" | k_dflt (refine' item_tupleT ?t_z ?a_z ?b_z ?c_z ?d_z ?_; (case t_z => exact News.isTup (by k_asm) (by k_mem)); (case a_z => decide); (case b_z => decide); (case c_z => rfl); (case d_z => rfl); k_whole)))
  (k_with "eval Name!" => (k_here; k_dflt (refine' nameX_L ?F_z ?v_z ?_ ?a_z ?b_z; (case F_z => k_asm); (case a_z => rfl); (case b_z => rfl); (case v_z => rfl); k_whole)))
  (k_with "exec Assign!" => ((with_reducible show wpAny _ _ (exec (Stmt.Assign [Expr.Name _ _] _ _) _) _ _ _); with_reducible refine wpAny_Assign_Name ?_))
  (k_with "MY rd" => first | exact RdArgs.nil | (refine' RdArgs.name ?x_z ?d_z ?v_z ?r_z; (case x_z => rfl); (case d_z => decide); (case v_z => rfl); (case r_z => k_extra "MY rd")) | (refine' RdArgs.str ?r_z; (case r_z => k_extra "MY rd")) | (refine' RdArgs.int ?r_z; (case r_z => k_extra "MY rd")) | (refine' RdArgs.bool ?r_z; (case r_z => k_extra "MY rd")) | (refine' RdArgs.non ?r_z; (case r_z => k_extra "MY rd")))
  (k_with "spliced!" => (k_here; (first | with_reducible show wpAny _ _ (spliced (backTo _ (starEach (Expr.Name _ _ :: _) _))) _ _ _ | with_reducible show wpAny _ _ (spliced (backTo _ (starEach (Expr.Constant _ _ _ :: _) _))) _ _ _); k_dflt (refine' args_rd ?F_z ?k_z ?r_z ?_; (case F_z => k_asm); (case k_z => rfl); (case r_z => k_extra "MY rd"); k_whole); (try dsimp only [List.cons_append, List.nil_append])))
  (k_with "eval Constant str!" => with_reducible refine const_str ?_)
  (k_with "eval Constant int!" => with_reducible refine const_int ?_)
  (k_with "storeName!" => (k_here; k_dflt (refine' storeN ?F_z ?N_z ?_ ?a_z ?b_z; (case F_z => k_asm); (case N_z => k_asm); (case a_z => rfl); (case b_z => rfl); k_whole; intro hq' Fq' Nq'; (try k_sweep))))
  (k_with "unpackItems ref!" => (k_here; k_dflt (refine' unpackN ?k1_z ?k2_z ?k3_z ?k4_z ?k5_z ?_; (case k1_z => k_asm); (case k2_z => k_asm); (case k3_z => kun_tup); (case k4_z => exact rfl); (case k5_z => exact rfl); k_whole); intro hq' Fq' Nq'; (try k_sweep)))
  (k_with "newTuple cons!" => (k_here; (with_reducible show wpAny _ _ (newTuple [_, _]) _ _ _); k_dflt (first | (refine' tupTo2 ?F_z ?N_z ?k_z ?x_z ?y_z ?hh_z ?_; (case F_z => k_asm); (case N_z => k_asm); (case k_z => rfl); (case x_z => rfl); (case y_z => rfl); (case hh_z => exact rfl); k_whole) | (refine' tupTo2s ?F_z ?N_z ?t_z ?k_z ?x_z ?y_z ?hh_z ?_; (case F_z => k_asm); (case N_z => k_asm); (case t_z => with_unfolding_all rfl); (case k_z => rfl); (case x_z => rfl); (case y_z => rfl); (case hh_z => exact rfl); k_whole)); intro hq' Fq' Nq'; (try k_sweep)))
  (k_with "eval Subscript!" => (k_here; (with_reducible show wpAny _ _ (eval (Expr.Subscript (Expr.Name _ _) (Expr.Constant (Const.str _) _ _) _) _) _ _ _); k_dflt (refine' subName ?F_z ?N_z ?k_z ?x_z ?b_z ?v_z ?p_z ?o_z ?l_z ?_; (case F_z => k_asm); (case N_z => k_asm); (case k_z => rfl); (case x_z => rfl); (case b_z => decide); (case v_z => rfl); (case p_z => k_mem); (case o_z => k_asm); (case l_z => rfl); k_whole)))
  (k_with "execs cons!" => (k_here; (first | (with_reducible refine execs_gen ?_; intro tq') | with_reducible refine wpAny_execs_cons ?_); (try k_fold)))
  (k_with "k_room!" => first | (refine' rm_k ?h_z ?e_z; (case h_z => with_reducible assumption); (case e_z => rfl)) | ((try simp only [depth_under_make, depth_under_kw, depth_in1, depth_deeper, depth_caller]); show _ < 1000; (try dsimp only); omega))
  (k_with "ke_room!" => first | (refine' rm_u ?h_z ?e_z; (case h_z => with_reducible assumption); (case e_z => rfl)) | ((simp only [units_under_make, units_in1, units_deeper, Around.mark_units, units_caller]); show _ < 9900; (try dsimp only); omega))
  (k_with "MY room" => first | (refine' rm_le ?h_z ?e_z; (case h_z => with_reducible assumption); (case e_z => rfl)) | ((try simp only [depth_under_make, depth_under_kw, depth_in1, depth_deeper, depth_caller, units_under_make, units_in1, units_deeper, Around.mark_units, units_caller]); (try dsimp only); omega))
  (k_with "call ref!" => (k_here; (with_reducible show wpAny _ _ (call (Value.ref 723) _) _ _ _); k_dflt (refine' call_scoop ?k1_z ?k2_z ?k3_z ?k4_z ?k5_z ?U_z ?hf_z ?hk_z ?hr_z ?hu_z ?p1_z ?p4_z ?p5_z ?_; (case hf_z => exact rfl); (case hk_z => exact rfl); (case k1_z => k_asm); (case k2_z => k_asm); (case k3_z => k_asm); (case k4_z => k_asm); (case k5_z => k_asm); (case U_z => k_updF); (case hr_z => k_extra "MY room"); (case hu_z => k_extra "MY room"); (case p1_z => k_asm); (case p4_z => omega); (case p5_z => omega); k_whole); intro h' tk' r' tr' a' ta' b' tb' F' N' hr0' hr1' ok'; (try dsimp only at N'); (try k_sweep)))
  (k_with "call ref!" => (k_here; (with_reducible show wpAny _ _ (call (Value.ref 730) _) _ _ _); k_dflt (refine' call_oneSel ?k1_z ?k2_z ?k3_z ?k4_z ?k5_z ?U_z ?hl_z ?hne_z ?hf_z ?hk_z ?hr_z ?hu_z ?p1_z ?p4_z ?p5_z ?p6_z ?_ ?_; (case hf_z => exact rfl); (case hk_z => exact rfl); (case k1_z => k_asm); (case k2_z => k_asm); (case k3_z => k_asm); (case k4_z => k_asm); (case k5_z => k_asm); (case hl_z => k_mem); (case hne_z => k_ne); (case U_z => k_updF); (case hr_z => k_extra "MY room"); (case hu_z => k_extra "MY room"); (case p1_z => k_asm); (case p4_z => exact Nat.le_of_ble_eq_true rfl); (case p5_z => exact Nat.le_of_ble_eq_true rfl); (case p6_z => exact rfl); k_whole); all_goals (intros; rename News _ _ _ _ => N'; (try dsimp only at N'); (try k_sweep))))
  (k_with "MY sub" => first | exact fun _ h => h | (refine sub_cons ?_; k_extra "MY sub"))
  (k_with "MY len" => first | with_reducible assumption | (refine' len_two ?h_z ?g_z ?e_z; (case h_z => assumption); (case g_z => with_reducible assumption); (case e_z => rfl)) | (refine' len_three ?h_z ?g_z ?e_z; (case h_z => assumption); (case g_z => with_reducible assumption); (case e_z => rfl)) | ((try simp only [List.length_append, List.length_cons, List.length_nil] at *); omega))
  (k_with "compareOp NotEq ref ref!" => (k_here; (with_reducible show wpAny _ _ (compareOp CmpOp.NotEq (Value.ref _) (Value.ref _)) _ _ _); k_dflt (first | (refine' ne_nil_cons ?N_z ?a_z ?b_z ?d_z ?s_z ?u_z ?_; (case N_z => k_asm); (case a_z => k_mem); (case b_z => k_mem); (case d_z => k_asm); (case s_z => k_extra "MY sub"); (case u_z => ke_room)) | (refine' ne_nil_nil ?N_z ?a_z ?b_z ?u_z ?_; (case N_z => k_asm); (case a_z => k_mem); (case b_z => k_mem); (case u_z => ke_room)))))
  (k_with "compareOp Eq ref ref!" => (k_here; (with_reducible show wpAny _ _ (compareOp CmpOp.Eq (Value.ref _) (Value.ref _)) _ _ _); k_dflt (first | (refine' eq_nil_cons ?N_z ?a_z ?b_z ?d_z ?s_z ?u_z ?_; (case N_z => k_asm); (case a_z => k_mem); (case b_z => k_mem); (case d_z => k_asm); (case s_z => k_extra "MY sub"); (case u_z => ke_room)) | (refine' eq_nil_nil ?N_z ?a_z ?b_z ?u_z ?_; (case N_z => k_asm); (case a_z => k_mem); (case b_z => k_mem); (case u_z => ke_room)))))
  (k_with "call builtin:list.pop!" => (k_here; k_dflt ((with_reducible show wpAny _ _ (call (Value.builtin _) [Value.ref _, Value.int _ _]) _ _ _); refine' my_pop0 ?F_z ?N_z ?U_z ?z_z ?_; (case F_z => k_asm); (case N_z => k_asm); (case U_z => k_updF); (case z_z => k_extra "MY len")); intro h' F' N'; (try dsimp only at N'); (try k_sweep)))
  (k_with "call builtin:list.append!" => (k_here; k_dflt ((with_reducible show wpAny _ _ (call (Value.builtin _) [Value.ref _, _]) _ _ _); refine' my_append ?F_z ?N_z ?U_z ?z_z ?_; (case F_z => k_asm); (case N_z => k_asm); (case U_z => k_updF); (case z_z => k_extra "MY len")); intro h' F' N'; (try dsimp only at N'); (try simp only [List.nil_append] at N'); (try k_sweep)))
  (k_with "call builtin:len!" => (k_here; (with_reducible show wpAny _ _ (call (Value.builtin "len") [Value.ref _]) _ _ _); k_dflt (refine' my_len ?N_z ?m_z ?z_z ?_; (case N_z => k_asm); (case m_z => k_mem); (case z_z => k_extra "MY len"))))
  (k_with "call ref!" => (k_here; (with_reducible show wpAny _ _ (call (Value.ref 737) _) _ _ _); k_dflt (first | (refine' call_ready_send ?k1_z ?k2_z ?k3_z ?k4_z ?k5_z ?hb_z ?h1_z ?h2_z ?h3_z ?h4_z ?hs_z ?hf_z ?hk_z ?hr_z ?hu_z ?r1_z ?r2_z ?r3_z ?l1_z ?_; (case hf_z => exact rfl); (case hk_z => exact rfl); (case k1_z => k_asm); (case k2_z => k_asm); (case k3_z => k_asm); (case k4_z => k_asm); (case k5_z => k_asm); (case h1_z => k_mem); (case hb_z => k_asm); (case h2_z => k_mem); (case h3_z => k_mem); (case h4_z => k_mem); (case r1_z => k_asm); (case r2_z => k_asm); (case r3_z => k_asm); (case hs_z => k_extra "MY sub"); (case hr_z => k_extra "MY room"); (case hu_z => k_extra "MY room"); (case l1_z => k_extra "MY len"); k_whole) | (refine' call_ready_recv ?k1_z ?k2_z ?k3_z ?k4_z ?k5_z ?hb_z ?h1_z ?h2_z ?h3_z ?h4_z ?hs_z ?hf_z ?hk_z ?hr_z ?hu_z ?r1_z ?r2_z ?r3_z ?l1_z ?_; (case hf_z => exact rfl); (case hk_z => exact rfl); (case k1_z => k_asm); (case k2_z => k_asm); (case k3_z => k_asm); (case k4_z => k_asm); (case k5_z => k_asm); (case h1_z => k_mem); (case hb_z => k_asm); (case h2_z => k_mem); (case h3_z => k_mem); (case h4_z => k_mem); (case r1_z => k_asm); (case r2_z => k_asm); (case r3_z => k_asm); (case hs_z => k_extra "MY sub"); (case hr_z => k_extra "MY room"); (case hu_z => k_extra "MY room"); (case l1_z => k_extra "MY len"); k_whole)); intro h' tk' F' N'; (try k_sweep)))
  (k_with "call ref!" => (k_here; (with_reducible show wpAny _ _ (call (Value.ref 28) _) _ _ _); k_dflt (first | (refine' call_case_send ?k1_z ?k2_z ?k3_z ?k4_z ?k5_z ?h1_z ?h2_z ?h3_z ?h4_z ?h5_z ?h6_z ?hs_z ?hf_z ?hk_z ?hr_z ?hu_z ?r1_z ?r2_z ?r3_z ?l1_z ?_; (case hf_z => exact rfl); (case hk_z => exact rfl); (case k1_z => k_asm); (case k2_z => k_asm); (case k3_z => k_asm); (case k4_z => k_asm); (case k5_z => k_asm); (case h1_z => k_mem); (case h2_z => k_mem); (case h3_z => k_mem); (case h4_z => k_mem); (case h5_z => k_mem); (case h6_z => k_mem); (case r1_z => k_asm); (case r2_z => k_asm); (case r3_z => k_asm); (case hs_z => k_extra "MY sub"); (case hr_z => k_extra "MY room"); (case hu_z => k_extra "MY room"); (case l1_z => k_extra "MY len"); k_whole) | (refine' call_case_recv ?k1_z ?k2_z ?k3_z ?k4_z ?k5_z ?h1_z ?h2_z ?h3_z ?h4_z ?h5_z ?h6_z ?hs_z ?hf_z ?hk_z ?hr_z ?hu_z ?r1_z ?r2_z ?r3_z ?l1_z ?_; (case hf_z => exact rfl); (case hk_z => exact rfl); (case k1_z => k_asm); (case k2_z => k_asm); (case k3_z => k_asm); (case k4_z => k_asm); (case k5_z => k_asm); (case h1_z => k_mem); (case h2_z => k_mem); (case h3_z => k_mem); (case h4_z => k_mem); (case h5_z => k_mem); (case h6_z => k_mem); (case r1_z => k_asm); (case r2_z => k_asm); (case r3_z => k_asm); (case hs_z => k_extra "MY sub"); (case hr_z => k_extra "MY room"); (case hu_z => k_extra "MY room"); (case l1_z => k_extra "MY len"); k_whole)); intro h' tk' F' N'; (try k_sweep)))
  (k_with "k_mem!" => with_reducible assumption)
  (k_with "MY cls" => first | exact cls_dict (by with_reducible assumption) | exact cls_rf | exact cls_ty (by decide) | fail "MY cls")
  (k_with "k_all!" => with_reducible assumption)
  (k_with "k_all!" => (refine' offTup ?N_z ?t_z ?s_z ?m_z ?c_z; (case N_z => k_asm); (case t_z => with_reducible assumption); (case s_z => k_extra "MY sub"); (case m_z => k_mem); (case c_z => k_extra "MY cls")))
  (k_with "eval ListComp!" => (k_here; (with_reducible show wpAny _ _ (eval (Expr.ListComp (Expr.Name _ _) [⟨Expr.Name _ _, _, [Expr.Compare _ [CmpOp.NotEq] _ _], _⟩] _ _) _) _ _ _); k_dflt (refine' filter_comp ?F_z ?N_z ?t_z ?c_z ?d_z ?k1_z ?k2_z ?k3_z ?k4_z ?k5_z ?k6_z ?k7_z ?k8_z ?k9_z ?hh_z ?u_z ?_ ?k10_z; (case F_z => k_asm); (case N_z => k_asm); (case t_z => with_reducible assumption); (case k1_z => with_unfolding_all rfl); (case c_z => k_mem); (case d_z => k_asm); (case k2_z => decide); (case k3_z => rfl); (case k4_z => decide); (case k5_z => rfl); (case k6_z => intro _; rfl); (case k7_z => intro _; rfl); (case k8_z => decide); (case k9_z => decide); (case hh_z => exact rfl); (case u_z => ke_room); (case k10_z => intro _; with_unfolding_all rfl))))
  (k_with "FiltSrc!" => ((rename Fr _ _ _ _ => lF'); (rename News _ _ _ _ => lN'); (refine ⟨_, _, _, _, _, _, rfl, lF', lN', by k_mem, by (first | with_reducible assumption), by (k_extra "MY sub"), by k_mem, by k_asm, by (k_extra "MY len"), ?_⟩); clear lF' lN'; intro h' tk' l' n' F' N' ap'; (try k_sweep)))
  (k_with "ked_read!" => exact sel_reads (by with_reducible assumption))
  (k_with "subscriptTail!" => (k_here; (with_reducible show wpAny _ _ (subscriptTail _ _ (Value.ref _) (Value.int _ _)) _ _ _); k_dflt (refine' item_row ?N_z ?s_z ?m_z ?a_z ?b_z ?c_z ?d_z ?_; (case N_z => k_asm); (case m_z => with_reducible assumption); (case s_z => k_extra "MY sub"); (case a_z => decide); (case b_z => decide); (case c_z => rfl); (case d_z => rfl))))
  (k_with "eval Subscript!" => (k_here; (with_reducible show wpAny _ _ (eval (Expr.Subscript (Expr.Name _ _) (Expr.Constant (Const.int _) _ _) _) _) _ _ _); k_dflt (refine' rowName ?F_z ?N_z ?k_z ?x_z ?b_z ?v_z ?s_z ?m_z ?a_z ?c_z ?d_z ?_; (case F_z => k_asm); (case N_z => k_asm); (case k_z => rfl); (case x_z => rfl); (case b_z => decide); (case v_z => rfl); (case m_z => with_reducible assumption); (case s_z => k_extra "MY sub"); (case a_z => decide); (case c_z => rfl); (case d_z => rfl); k_whole)))
  (k_with "k_memK!" => first | (refine Bef.head ?_; k_memK) | (refine Bef.tail ?_; k_memK))
  (k_with "k_ne!" => (refine neN ?_; (try dsimp only); first | exact Aps.get (by with_reducible assumption) (by k_memK) | exact (Aps.get (by with_reducible assumption) (by k_memK)).symm | exact AllAp.get (by with_reducible assumption) (by k_memK) | exact (AllAp.get (by with_reducible assumption) (by k_memK)).symm | omega))
  trivial
theorem lt_neS {d a : Addr} {o : Obj} {l : List (Addr × Obj)} (h : LtS d l) (hm : (a, o) ∈ l) : d ≠ a := (allLt_ne h hm).symm
theorem lt_ne1 {d a : Addr} {o : Obj} {l : List (Addr × Obj)} (h : LtS d l) (hm : (a, o) ∈ l) : a ≠ d + 1 := Nat.ne_of_lt (Nat.lt_succ_of_lt (allLt_get h.h hm))
theorem lt_neS1 {d a : Addr} {o : Obj} {l : List (Addr × Obj)} (h : LtS d l) (hm : (a, o) ∈ l) : d + 1 ≠ a := (lt_ne1 h hm).symm
def Bef2 (a b : Addr) (l : List Addr) : Prop := Bef a b l ∨ Bef b a l
theorem aps_ne {a b : Addr} {l : List Addr} (h : Aps l) (q : Bef2 a b l) : a ≠ b := q.elim h.get fun q => (h.get q).symm
theorem bf0 {a b : Addr} {r : List Addr} (h : b ∈ r) : Bef2 a b (a :: r) := .inl (.head h)
theorem bg0 {a b : Addr} {r : List Addr} (h : a ∈ r) : Bef2 a b (b :: r) := .inr (.head h)
theorem bft {a b x : Addr} {r : List Addr} (h : Bef2 a b r) : Bef2 a b (x :: r) := h.elim (fun h => .inl (.tail h)) fun h => .inr (.tail h)
theorem bf1 {a b x0 : Addr} {r : List Addr} (h : b ∈ r) : Bef2 a b (x0 :: a :: r) := bft (bf0 h)
theorem bg1 {a b x0 : Addr} {r : List Addr} (h : a ∈ r) : Bef2 a b (x0 :: b :: r) := bft (bg0 h)
theorem bf2 {a b x0 x1 : Addr} {r : List Addr} (h : b ∈ r) : Bef2 a b (x0 :: x1 :: a :: r) := bft (bf1 h)
theorem bg2 {a b x0 x1 : Addr} {r : List Addr} (h : a ∈ r) : Bef2 a b (x0 :: x1 :: b :: r) := bft (bg1 h)
theorem bf3 {a b x0 x1 x2 : Addr} {r : List Addr} (h : b ∈ r) : Bef2 a b (x0 :: x1 :: x2 :: a :: r) := bft (bf2 h)
theorem bg3 {a b x0 x1 x2 : Addr} {r : List Addr} (h : a ∈ r) : Bef2 a b (x0 :: x1 :: x2 :: b :: r) := bft (bg2 h)
theorem bf4 {a b x0 x1 x2 x3 : Addr} {r : List Addr} (h : b ∈ r) : Bef2 a b (x0 :: x1 :: x2 :: x3 :: a :: r) := bft (bf3 h)
theorem bg4 {a b x0 x1 x2 x3 : Addr} {r : List Addr} (h : a ∈ r) : Bef2 a b (x0 :: x1 :: x2 :: x3 :: b :: r) := bft (bg3 h)
theorem bf5 {a b x0 x1 x2 x3 x4 : Addr} {r : List Addr} (h : b ∈ r) : Bef2 a b (x0 :: x1 :: x2 :: x3 :: x4 :: a :: r) := bft (bf4 h)
theorem bg5 {a b x0 x1 x2 x3 x4 : Addr} {r : List Addr} (h : a ∈ r) : Bef2 a b (x0 :: x1 :: x2 :: x3 :: x4 :: b :: r) := bft (bg4 h)
theorem bf6 {a b x0 x1 x2 x3 x4 x5 : Addr} {r : List Addr} (h : b ∈ r) : Bef2 a b (x0 :: x1 :: x2 :: x3 :: x4 :: x5 :: a :: r) := bft (bf5 h)
theorem bg6 {a b x0 x1 x2 x3 x4 x5 : Addr} {r : List Addr} (h : a ∈ r) : Bef2 a b (x0 :: x1 :: x2 :: x3 :: x4 :: x5 :: b :: r) := bft (bg5 h)
theorem bf7 {a b x0 x1 x2 x3 x4 x5 x6 : Addr} {r : List Addr} (h : b ∈ r) : Bef2 a b (x0 :: x1 :: x2 :: x3 :: x4 :: x5 :: x6 :: a :: r) := bft (bf6 h)
theorem bg7 {a b x0 x1 x2 x3 x4 x5 x6 : Addr} {r : List Addr} (h : a ∈ r) : Bef2 a b (x0 :: x1 :: x2 :: x3 :: x4 :: x5 :: x6 :: b :: r) := bft (bg6 h)
theorem bf8 {a b x0 x1 x2 x3 x4 x5 x6 x7 : Addr} {r : List Addr} (h : b ∈ r) : Bef2 a b (x0 :: x1 :: x2 :: x3 :: x4 :: x5 :: x6 :: x7 :: a :: r) := bft (bf7 h)
theorem bg8 {a b x0 x1 x2 x3 x4 x5 x6 x7 : Addr} {r : List Addr} (h : a ∈ r) : Bef2 a b (x0 :: x1 :: x2 :: x3 :: x4 :: x5 :: x6 :: x7 :: b :: r) := bft (bg7 h)
theorem bf9 {a b x0 x1 x2 x3 x4 x5 x6 x7 x8 : Addr} {r : List Addr} (h : b ∈ r) : Bef2 a b (x0 :: x1 :: x2 :: x3 :: x4 :: x5 :: x6 :: x7 :: x8 :: a :: r) := bft (bf8 h)
theorem bg9 {a b x0 x1 x2 x3 x4 x5 x6 x7 x8 : Addr} {r : List Addr} (h : a ∈ r) : Bef2 a b (x0 :: x1 :: x2 :: x3 :: x4 :: x5 :: x6 :: x7 :: x8 :: b :: r) := bft (bg8 h)
theorem bf10 {a b x0 x1 x2 x3 x4 x5 x6 x7 x8 x9 : Addr} {r : List Addr} (h : b ∈ r) : Bef2 a b (x0 :: x1 :: x2 :: x3 :: x4 :: x5 :: x6 :: x7 :: x8 :: x9 :: a :: r) := bft (bf9 h)
theorem bg10 {a b x0 x1 x2 x3 x4 x5 x6 x7 x8 x9 : Addr} {r : List Addr} (h : a ∈ r) : Bef2 a b (x0 :: x1 :: x2 :: x3 :: x4 :: x5 :: x6 :: x7 :: x8 :: x9 :: b :: r) := bft (bg9 h)
theorem bf11 {a b x0 x1 x2 x3 x4 x5 x6 x7 x8 x9 x10 : Addr} {r : List Addr} (h : b ∈ r) : Bef2 a b (x0 :: x1 :: x2 :: x3 :: x4 :: x5 :: x6 :: x7 :: x8 :: x9 :: x10 :: a :: r) := bft (bf10 h)
theorem bg11 {a b x0 x1 x2 x3 x4 x5 x6 x7 x8 x9 x10 : Addr} {r : List Addr} (h : a ∈ r) : Bef2 a b (x0 :: x1 :: x2 :: x3 :: x4 :: x5 :: x6 :: x7 :: x8 :: x9 :: x10 :: b :: r) := bft (bg10 h)
section
variable {M : Model} {A : Around} {E : Value → Shared → Prop} {h₀ h : Heap} {L : Addr} {m : Str → Option Value} {gs : Array GenState} {dr : Drawn} {tk : Nat} {os : OsState} {news : List (Addr × Obj)} {vs : List Value} {Q : Value → Shared → Prop}
theorem newTupS (F : Fr h₀ L h m) (N : News h₀ L h news) (hz : Nat.ble vs.length 64 = true)
    (k : ∀ D h', LtS D news → Fr h₀ L h' m → News h₀ L h' ((D, tupOf vs.toArray 0) :: news) → Q (.ref D) ⟨h', gs, dr, tk, os⟩) : wpAny M A (newTuple vs) Q E ⟨h, gs, dr, tk, os⟩ :=
  kup_newTuple F N (fun D h' F' N' l => k D h' (ltS_of l) F' N') (sz_le hz)
theorem newListS (F : Fr h₀ L h m) (N : News h₀ L h news) (hz : Nat.ble vs.length 64 = true)
    (k : ∀ D h', LtS D news → Fr h₀ L h' m → News h₀ L h' ((D, listOf vs.toArray 0) :: news) → Q (.ref D) ⟨h', gs, dr, tk, os⟩) : wpAny M A (newList vs) Q E ⟨h, gs, dr, tk, os⟩ :=
  newList_K F N (fun D h' F' N' l => k D h' (ltS_of l) F' N') (sz_le hz)
end
example : True := by
  (k_with "newTuple!" => (k_here; k_dflt (refine' newTupS ?F_z ?N_z ?z_z ?_; (case F_z => k_asm); (case N_z => k_asm); (case z_z => rfl); k_whole); intro Dq' hq' lq' Fq' Nq'; (try k_sweep)))
  (k_with "newList!" => (k_here; k_dflt (refine' newListS ?F_z ?N_z ?z_z ?_; (case F_z => k_asm); (case N_z => k_asm); (case z_z => rfl); k_whole); intro Dq' hq' lq' Fq' Nq'; (try k_sweep)))
  (k_with "MYM" => with_reducible (first | exact mm0 | exact mm1 | exact mm2 | exact mm3 | exact mm4 | exact mm5 | exact mm6 | exact mm7 | exact mm8 | exact mm9 | exact mm10 | exact mm11 | exact mm12 | exact mm13 | exact mm14 | exact mm15 | exact mm16 | exact mm17 | exact mm18 | exact mm19 | exact mm20 | exact mm21 | exact mm22 | exact mm23 | exact mm24 | exact mm25 | exact mm26 | exact mm27 | exact mm28 | exact mm29 | exact mm30 | exact mm31 | exact mm32 | exact mm33 | exact mm34 | exact mm35 | exact mm36 | exact mm37 | exact mm38 | exact mm39 | exact mm40 | exact mm41 | exact mm42 | exact mm43 | exact mm44 | exact mm45 | exact mm46 | exact mm47))
  (k_with "MYB" => (first | (with_reducible refine bf0 ?_) | (with_reducible refine bg0 ?_) | (with_reducible refine bf1 ?_) | (with_reducible refine bg1 ?_) | (with_reducible refine bf2 ?_) | (with_reducible refine bg2 ?_) | (with_reducible refine bf3 ?_) | (with_reducible refine bg3 ?_) | (with_reducible refine bf4 ?_) | (with_reducible refine bg4 ?_) | (with_reducible refine bf5 ?_) | (with_reducible refine bg5 ?_) | (with_reducible refine bf6 ?_) | (with_reducible refine bg6 ?_) | (with_reducible refine bf7 ?_) | (with_reducible refine bg7 ?_) | (with_reducible refine bf8 ?_) | (with_reducible refine bg8 ?_) | (with_reducible refine bf9 ?_) | (with_reducible refine bg9 ?_) | (with_reducible refine bf10 ?_) | (with_reducible refine bg10 ?_) | (with_reducible refine bf11 ?_) | (with_reducible refine bg11 ?_)); k_extra "MYM")
  trivial
local macro_rules | `(tactic| k_lt $h:ident) => `(tactic| (replace $h := ltS_of $h))
example : True := by
  (k_with "k_mem!" => k_extra "MYM")
  (k_with "k_all!" => exact ltS_all (by with_reducible assumption))
  (k_with "k_ne!" => (refine neN ?_; (try dsimp only); first | (refine' allLt_ne ?L_z ?M_z; (case L_z => with_reducible assumption); (case M_z => k_extra "MYM")) | (refine' lt_neS ?L_z ?M_z; (case L_z => with_reducible assumption); (case M_z => k_extra "MYM")) | (refine' aps_ne ?A_z ?B_z; (case A_z => with_reducible assumption); (case B_z => k_extra "MYB")) | (refine' lt_ne1 ?L_z ?M_z; (case L_z => with_reducible assumption); (case M_z => k_extra "MYM")) | (refine' lt_neS1 ?L_z ?M_z; (case L_z => with_reducible assumption); (case M_z => k_extra "MYM")) | exact ne_lt (by with_reducible assumption) | exact (ne_lt (by with_reducible assumption)).symm | (refine' allLt_ne2 ?e_z ?L_z ?M_z; (case e_z => with_reducible assumption); (case L_z => with_reducible assumption); (case M_z => k_extra "MYM")) | (refine' (allLt_ne2 ?e_z ?L_z ?M_z).symm; (case e_z => with_reducible assumption); (case L_z => with_reducible assumption); (case M_z => k_extra "MYM")) | exact AllAp.get (by with_reducible assumption) (by k_mem) | exact (AllAp.get (by with_reducible assumption) (by k_mem)).symm | fail "MY ne"))
  trivial

end
local macro_rules | `(tactic| k_lt $h:ident) => `(tactic| (replace $h := ltS_of $h))
section
example : True := by
  w_top off
  trivial
theorem allLt_ap {d : Addr} : ∀ {l : List (Addr × Obj)}, AllLt d l → AllAp d l
  | [], _ => fun _ h => nomatch h
  | _ :: _, h => fun q hq => by
    rcases List.mem_cons.mp hq with rfl | hq
    · exact Nat.ne_of_lt h.1
    · exact allLt_ap h.2 q hq
theorem ltS_ap {d : Addr} {l mu : List (Addr × Obj)} (L : LtS d l) (s : AllLt d l → AllLt d mu) : AllAp d mu := allLt_ap (s L.h)
theorem Aps.five {a b c d e : Addr} {l : List Addr} (h : Aps (a :: b :: c :: d :: e :: l)) : Aps [a, b, c, d, e] := by
  obtain ⟨h1, h2, h3, h4, _⟩ := h
  simp only [List.forall_mem_cons] at h1 h2 h3 h4
  simp only [Aps, List.forall_mem_cons, List.not_mem_nil, false_imp_iff, implies_true, and_true]
  exact ⟨⟨h1.1, h1.2.1, h1.2.2.1, h1.2.2.2.1⟩, ⟨h2.1, h2.2.1, h2.2.2.1⟩, ⟨h3.1, h3.2.1⟩, h4.1⟩

abbrev c5 (w : World) (C dC b sq r : Addr) (t1 t2 t3 t4 t5 tr : Tok) (n1 n2 n3 : Nat) (room : Int) (bufV sndV rcvV : List Value) (tl : List (Addr × Obj)) : List (Addr × Obj) :=
  (C, instObj 433 dC) :: (dC, chanD w t1 t2 t3 t4 t5 room tr b sq r) :: (b, listOf bufV.toArray n1) :: (sq, listOf sndV.toArray n2) :: (r, listOf rcvV.toArray n3) :: tl

def OfferA (mu : List (Addr × Obj)) (r : Addr) (rs : List Value) (n3 : Nat) (rh ru x : Int) (rt1 rt3 t2 : Tok) (rsV : Value) (g' : Heap) (v : Value) (h' : Heap) : Prop :=
  ∃ told d1 d2 d3 u1 u2 u3, v = .ref told ∧ Chg mu [(r, listOf rs.toArray (n3 + 1))] [(told, listOf #[.ref d1, .ref d2] 0), (d1, tupOf #[.str (Str.ofString "done") u1] 0), (d2, tupOf #[.str (Str.ofString "woken") u2, .int rh rt1, .int ru rt3, rsV, .ref d3] 0), (d3, tupOf #[.str (Str.ofString "received") u3, .int x t2, .bool true] 0)] g' h'
def OfferB (mu : List (Addr × Obj)) (b : Addr) (bufV : List Value) (n1 : Nat) (x : Int) (t2 : Tok) (g' : Heap) (v : Value) (h' : Heap) : Prop :=
  ∃ told d1 u1, v = .ref told ∧ Chg mu [(b, listOf (bufV ++ [Value.int x t2]).toArray (n1 + 1))] [(told, listOf #[.ref d1] 0), (d1, tupOf #[.str (Str.ofString "done") u1] 0)] g' h'
def OfferC (mu : List (Addr × Obj)) (sq : Addr) (sndV : List Value) (n2 : Nat) (row : Value) (g' : Heap) (v : Value) (h' : Heap) : Prop :=
  ∃ told d1 u1, v = .ref told ∧ Chg mu [(sq, listOf (sndV ++ [row]).toArray (n2 + 1))] [(told, listOf #[.ref d1] 0), (d1, tupOf #[.str (Str.ofString "blocked") u1] 0)] g' h'

example : True := by
  (k_with "MY split" => (repeat (rename (_ ∧ _) => hc9; obtain ⟨_, _⟩ := hc9)))
  (k_with "MY lts" => (repeat' (first | with_reducible assumption | exact True.intro | refine And.intro ?_ ?_)))
  (k_with "MY stay" => first | (refine' allk ?a9_z ?b9_z; (case a9_z => first | exact fun _ => News.get (by with_reducible assumption) (by k_mem) | exact fun h => absurd (by k_memK) h); (case b9_z => k_extra "MY stay")) | exact fun q hq _ => (by with_reducible assumption : News _ _ _ _).get ((by k_extra "MY sub" : ∀ p ∈ _, p ∈ _) q hq))
  (k_with "MY now" => first | exact List.forall_mem_nil _ | (refine' allk ?a9_z ?b9_z; (case a9_z => exact News.get (by with_reducible assumption) (by k_mem)); (case b9_z => k_extra "MY now")))
  (k_with "MY made" => first | exact List.forall_mem_nil _ | (refine' allk ?a9_z ?b9_z; (case a9_z => exact ⟨News.get (by with_reducible assumption) (by k_mem), News.fresh (by with_reducible assumption) (by k_mem)⟩); (case b9_z => k_extra "MY made")))
  (k_with "MY aps1" => first | (refine' ltS_ap ?L_z ?s_z; (case L_z => with_reducible assumption); (case s_z => first | exact fun h => h | exact fun h => h.2 | exact fun h => h.2.2 | exact fun h => h.2.2.2 | exact fun h => h.2.2.2.2 | exact fun h => h.2.2.2.2.2 | exact fun h => h.2.2.2.2.2.2 | exact fun h => h.2.2.2.2.2.2.2)) | exact allLt_ap (by k_extra "MY lts"))
  (k_with "MY apart" => first | exact List.forall_mem_nil _ | (refine' allk ?a9_z ?b9_z; (case a9_z => k_extra "MY aps1"); (case b9_z => k_extra "MY apart")))
  trivial

section
variable {w : World} {mean : ExcName → Option Value} {mg mb : Str → Option Value} {dp un : Nat} {gd : Option (List Code)} {base g : Heap} {fs : List Env} {s : Shared}
    {C dC b sq r row ra : Addr} {t1 t2 t3 t4 t5 tr w1 w2 w3 rt1 rt3 : Tok} {n1 n2 n3 n rn : Nat} {room ih ix iu rh ru : Int} {bufV sndV rcvV rs : List Value} {sv rsV : Value} {tl : List (Addr × Obj)}
set_option maxRecDepth 100000 in
set_option maxHeartbeats 8000000 in
theorem offer_A (G : Gd w mean mg mb ⟨none, dp, some fs, gd, un⟩ base fs g) (hx : Ext g s.heap) (hroom : dp ≤ 970) (hun : un ≤ 8900)
    (aps : Aps [C, dC, b, sq, r]) (tup : TupLed tl) (rd3 : Rd tl (.ref ra :: rs)) (l3 : (Value.ref ra :: rs).length ≤ 100)
    (hrow : (row, tupOf #[.int ih w1, .int ix w2, .int iu w3, sv] n) ∈ tl) (hra : (ra, tupOf #[.int rh rt1, .none, .int ru rt3, rsV] rn) ∈ tl)
    (N : NewsG g s.heap (c5 w C dC b sq r t1 t2 t3 t4 t5 tr n1 n2 n3 room bufV sndV (.ref ra :: rs) tl)) :
    codeAny (model PR w) ⟨none, dp, some fs, gd, un⟩ (.call (.ref 399) ⟨[.ref C, .ref row], []⟩) (Done s g (OfferA (c5 w C dC b sq r t1 t2 t3 t4 t5 tr n1 n2 n3 room bufV sndV (.ref ra :: rs) tl) r rs n3 rh ru ix rt1 rt3 w2 rsV g)) s := by
  refine unbx ?_
  simp (discharger := (k_dflt (
      refine enterG (binds := [(Str.ofString "self", .ref C), (Str.ofString "waiter", .ref row)]) G hx N (by k_is) (by k_is) (by exact Nat.lt_of_le_of_lt hroom (by decide)) (by exact BindsTo.of_eq rfl) (by exact locs rfl) ?_ (by exact rfl) (by exact rfl) (by exact rfl) (by decide)
      intro L' h' F' N'
      have B' := G.B
      have X' := G.X
      have T' := G.T
      simp only [c5] at N'
      clear N hx
      try dsimp only
      (try k_fold)
      k_steps
      all_goals (try dsimp only)
      rename Fr _ _ _ _ => F
      k_extra "MY split"
      refine' Done.of F ⟨_, _, _, _, _, _, _, rfl, ?c1, ?c2, ?c3, ?c4⟩
      case c3 => k_extra "MY made"
      case c1 => k_extra "MY stay"
      case c2 => k_extra "MY now"
      case c4 => k_extra "MY apart"))) only [↓bx]

set_option maxRecDepth 100000 in
set_option maxHeartbeats 8000000 in
theorem offer_B (G : Gd w mean mg mb ⟨none, dp, some fs, gd, un⟩ base fs g) (hx : Ext g s.heap) (hroom : dp ≤ 970) (hun : un ≤ 8900)
    (aps : Aps [C, dC, b, sq, r]) (tup : TupLed tl) (l1 : bufV.length ≤ 100) (hlt : (bufV.length : Int) < room)
    (hrow : (row, tupOf #[.int ih w1, .int ix w2, .int iu w3, sv] n) ∈ tl)
    (N : NewsG g s.heap (c5 w C dC b sq r t1 t2 t3 t4 t5 tr n1 n2 n3 room bufV sndV [] tl)) :
    codeAny (model PR w) ⟨none, dp, some fs, gd, un⟩ (.call (.ref 399) ⟨[.ref C, .ref row], []⟩) (Done s g (OfferB (c5 w C dC b sq r t1 t2 t3 t4 t5 tr n1 n2 n3 room bufV sndV [] tl) b bufV n1 ix w2 g)) s := by
  refine unbx ?_
  simp (discharger := (k_dflt (
      refine enterG (binds := [(Str.ofString "self", .ref C), (Str.ofString "waiter", .ref row)]) G hx N (by k_is) (by k_is) (by exact Nat.lt_of_le_of_lt hroom (by decide)) (by exact BindsTo.of_eq rfl) (by exact locs rfl) ?_ (by exact rfl) (by exact rfl) (by exact rfl) (by decide)
      intro L' h' F' N'
      have B' := G.B
      have X' := G.X
      have T' := G.T
      simp only [c5] at N'
      clear N hx
      try dsimp only
      (try k_fold)
      k_steps
      all_goals (try dsimp only)
      rename Fr _ _ _ _ => F
      k_extra "MY split"
      refine' Done.of F ⟨_, _, _, rfl, ?c1, ?c2, ?c3, ?c4⟩
      case c3 => k_extra "MY made"
      case c1 => k_extra "MY stay"
      case c2 => k_extra "MY now"
      case c4 => k_extra "MY apart"))) only [↓bx]

set_option maxRecDepth 100000 in
set_option maxHeartbeats 8000000 in
theorem offer_C (G : Gd w mean mg mb ⟨none, dp, some fs, gd, un⟩ base fs g) (hx : Ext g s.heap) (hroom : dp ≤ 970) (hun : un ≤ 8900)
    (aps : Aps [C, dC, b, sq, r]) (tup : TupLed tl) (l1 : bufV.length ≤ 100) (l2 : sndV.length ≤ 100) (hlt : ¬ (bufV.length : Int) < room)
    (hrow : (row, tupOf #[.int ih w1, .int ix w2, .int iu w3, sv] n) ∈ tl)
    (N : NewsG g s.heap (c5 w C dC b sq r t1 t2 t3 t4 t5 tr n1 n2 n3 room bufV sndV [] tl)) :
    codeAny (model PR w) ⟨none, dp, some fs, gd, un⟩ (.call (.ref 399) ⟨[.ref C, .ref row], []⟩) (Done s g (OfferC (c5 w C dC b sq r t1 t2 t3 t4 t5 tr n1 n2 n3 room bufV sndV [] tl) sq sndV n2 (.ref row) g)) s := by
  refine unbx ?_
  simp (discharger := (k_dflt (
      refine enterG (binds := [(Str.ofString "self", .ref C), (Str.ofString "waiter", .ref row)]) G hx N (by k_is) (by k_is) (by exact Nat.lt_of_le_of_lt hroom (by decide)) (by exact BindsTo.of_eq rfl) (by exact locs rfl) ?_ (by exact rfl) (by exact rfl) (by exact rfl) (by decide)
      intro L' h' F' N'
      have B' := G.B
      have X' := G.X
      have T' := G.T
      simp only [c5] at N'
      clear N hx
      try dsimp only
      (try k_fold)
      k_steps
      all_goals (try dsimp only)
      rename Fr _ _ _ _ => F
      k_extra "MY split"
      refine' Done.of F ⟨_, _, _, rfl, ?c1, ?c2, ?c3, ?c4⟩
      case c3 => k_extra "MY made"
      case c1 => k_extra "MY stay"
      case c2 => k_extra "MY now"
      case c4 => k_extra "MY apart"))) only [↓bx]
end

end
section
example : True := by
  w_top off
  trivial
example : True := by
  (k_with "MY ap" => first | (refine allc ⟨AllAp.get (by with_reducible assumption) (by k_mem), ?_⟩; k_extra "MY ap") | exact fun q hq => AllAp.get (by with_reducible assumption) ((by k_extra "MY sub" : ∀ p ∈ _, p ∈ _) q hq))
  trivial
def TakeA (mu : List (Addr × Obj)) (b sq : Addr) (bs ss : List Value) (n1 n2 : Nat) (bv : Value) (sh sx su : Int) (st1 st2 st3 : Tok) (ssV : Value) (g' : Heap) (v : Value) (h' : Heap) : Prop :=
  ∃ told d1 d2 d3 u1 u2 u3 n, v = .ref told ∧ Chg mu [(b, listOf (bs ++ [Value.int sx st2]).toArray (n1 + 1 + 1)), (sq, listOf ss.toArray (n2 + 1))] [(told, listOf #[.ref d1, .ref d2] n), (d1, tupOf #[.str (Str.ofString "done") u1, bv, .bool true] 0), (d2, tupOf #[.str (Str.ofString "woken") u2, .int sh st1, .int su st3, ssV, .ref d3] 0), (d3, tupOf #[.str (Str.ofString "sent") u3] 0)] g' h'
def TakeB (mu : List (Addr × Obj)) (b : Addr) (bs : List Value) (n1 : Nat) (bv : Value) (g' : Heap) (v : Value) (h' : Heap) : Prop :=
  ∃ told d1 u1 n, v = .ref told ∧ Chg mu [(b, listOf bs.toArray (n1 + 1))] [(told, listOf #[.ref d1] n), (d1, tupOf #[.str (Str.ofString "done") u1, bv, .bool true] 0)] g' h'
def TakeC (mu : List (Addr × Obj)) (sq : Addr) (ss : List Value) (n2 : Nat) (sh sx su : Int) (st1 st2 st3 : Tok) (ssV : Value) (g' : Heap) (v : Value) (h' : Heap) : Prop :=
  ∃ told d1 d2 d3 u1 u2 u3 n, v = .ref told ∧ Chg mu [(sq, listOf ss.toArray (n2 + 1))] [(told, listOf #[.ref d1, .ref d2] n), (d1, tupOf #[.str (Str.ofString "done") u1, .int sx st2, .bool true] 0), (d2, tupOf #[.str (Str.ofString "woken") u2, .int sh st1, .int su st3, ssV, .ref d3] 0), (d3, tupOf #[.str (Str.ofString "sent") u3] 0)] g' h'
def TakeD (mu : List (Addr × Obj)) (r : Addr) (rcvV : List Value) (n3 : Nat) (row : Value) (g' : Heap) (v : Value) (h' : Heap) : Prop :=
  ∃ told d1 u1 n, v = .ref told ∧ Chg mu [(r, listOf (rcvV ++ [row]).toArray (n3 + 1))] [(told, listOf #[.ref d1] n), (d1, tupOf #[.str (Str.ofString "blocked") u1] 0)] g' h'
def ForgetP (w : World) (mu : List (Addr × Obj)) (dC b : Addr) (t1 t2 t3 t4 t5 tr : Tok) (room : Int) (sndV rcvV : List Value) (tl : List (Addr × Obj)) (i : Int) (g' : Heap) (v : Value) (h' : Heap) : Prop :=
  ∃ l1 l2 n1 n2, v = .none ∧ Chg mu [(dC, chanD w t1 t2 t3 t4 t5 room tr b l1 l2)] [(l1, listOf (sndV.filter (keepP tl i)).toArray n1), (l2, listOf (rcvV.filter (keepP tl i)).toArray n2)] g' h' ∧ l1 ≠ l2
section
variable {w : World} {mean : ExcName → Option Value} {mg mb : Str → Option Value} {dp un : Nat} {gd : Option (List Code)} {base g : Heap} {fs : List Env} {s : Shared}
    {C dC b sq r row sa : Addr} {t1 t2 t3 t4 t5 tr st1 st2 st3 ti : Tok} {n1 n2 n3 sn : Nat} {room sh sx su i : Int} {bufV sndV rcvV bs ss : List Value} {bv ssV : Value} {tl : List (Addr × Obj)}

set_option maxRecDepth 100000 in
set_option maxHeartbeats 8000000 in
theorem take_A (G : Gd w mean mg mb ⟨none, dp, some fs, gd, un⟩ base fs g) (hx : Ext g s.heap) (hroom : dp ≤ 960) (hun : un ≤ 8800)
    (aps : Aps [C, dC, b, sq, r]) (tup : TupLed tl) (rd1 : Rd tl (bv :: bs)) (rd2 : Rd tl (.ref sa :: ss)) (l1 : (bv :: bs).length ≤ 100) (l2 : (Value.ref sa :: ss).length ≤ 100) (hsa : (sa, tupOf #[.int sh st1, .int sx st2, .int su st3, ssV] sn) ∈ tl)
    (N : NewsG g s.heap (c5 w C dC b sq r t1 t2 t3 t4 t5 tr n1 n2 n3 room (bv :: bs) (.ref sa :: ss) rcvV tl)) :
    codeAny (model PR w) ⟨none, dp, some fs, gd, un⟩ (.call (.ref 406) ⟨[.ref C, .ref row], []⟩) (Done s g (TakeA (c5 w C dC b sq r t1 t2 t3 t4 t5 tr n1 n2 n3 room (bv :: bs) (.ref sa :: ss) rcvV tl) b sq bs ss n1 n2 bv sh sx su st1 st2 st3 ssV g)) s := by
  refine unbx ?_
  simp (discharger := (k_dflt (
      refine enterG (binds := [(Str.ofString "self", .ref C), (Str.ofString "waiter", .ref row)]) G hx N (by k_is) (by k_is) (by exact Nat.lt_of_le_of_lt hroom (by decide)) (by exact BindsTo.of_eq rfl) (by exact locs rfl) ?_ (by exact rfl) (by exact rfl) (by exact rfl) (by decide)
      intro L' h' F' N'
      have B' := G.B
      have X' := G.X
      have T' := G.T
      simp only [c5] at N'
      clear N hx
      try dsimp only
      (try k_fold)
      k_steps
      all_goals (try dsimp only)
      rename Fr _ _ _ _ => F
      k_extra "MY split"
      refine' Done.of F ⟨_, _, _, _, _, _, _, _, rfl, ?c1, ?c2, ?c3, ?c4⟩
      case c3 => k_extra "MY made"
      case c1 => k_extra "MY stay"
      case c2 => k_extra "MY now"
      case c4 => k_extra "MY apart"))) only [↓bx]

set_option maxRecDepth 100000 in
set_option maxHeartbeats 8000000 in
theorem take_B (G : Gd w mean mg mb ⟨none, dp, some fs, gd, un⟩ base fs g) (hx : Ext g s.heap) (hroom : dp ≤ 960) (hun : un ≤ 8800)
    (aps : Aps [C, dC, b, sq, r]) (tup : TupLed tl) (rd1 : Rd tl (bv :: bs)) (l1 : (bv :: bs).length ≤ 100)
    (N : NewsG g s.heap (c5 w C dC b sq r t1 t2 t3 t4 t5 tr n1 n2 n3 room (bv :: bs) [] rcvV tl)) :
    codeAny (model PR w) ⟨none, dp, some fs, gd, un⟩ (.call (.ref 406) ⟨[.ref C, .ref row], []⟩) (Done s g (TakeB (c5 w C dC b sq r t1 t2 t3 t4 t5 tr n1 n2 n3 room (bv :: bs) [] rcvV tl) b bs n1 bv g)) s := by
  refine unbx ?_
  simp (discharger := (k_dflt (
      refine enterG (binds := [(Str.ofString "self", .ref C), (Str.ofString "waiter", .ref row)]) G hx N (by k_is) (by k_is) (by exact Nat.lt_of_le_of_lt hroom (by decide)) (by exact BindsTo.of_eq rfl) (by exact locs rfl) ?_ (by exact rfl) (by exact rfl) (by exact rfl) (by decide)
      intro L' h' F' N'
      have B' := G.B
      have X' := G.X
      have T' := G.T
      simp only [c5] at N'
      clear N hx
      try dsimp only
      (try k_fold)
      k_steps
      all_goals (try dsimp only)
      rename Fr _ _ _ _ => F
      k_extra "MY split"
      refine' Done.of F ⟨_, _, _, _, rfl, ?c1, ?c2, ?c3, ?c4⟩
      case c3 => k_extra "MY made"
      case c1 => k_extra "MY stay"
      case c2 => k_extra "MY now"
      case c4 => k_extra "MY apart"))) only [↓bx]

set_option maxRecDepth 100000 in
set_option maxHeartbeats 8000000 in
theorem take_C (G : Gd w mean mg mb ⟨none, dp, some fs, gd, un⟩ base fs g) (hx : Ext g s.heap) (hroom : dp ≤ 960) (hun : un ≤ 8800)
    (aps : Aps [C, dC, b, sq, r]) (tup : TupLed tl) (rd2 : Rd tl (.ref sa :: ss)) (l2 : (Value.ref sa :: ss).length ≤ 100) (hsa : (sa, tupOf #[.int sh st1, .int sx st2, .int su st3, ssV] sn) ∈ tl)
    (N : NewsG g s.heap (c5 w C dC b sq r t1 t2 t3 t4 t5 tr n1 n2 n3 room [] (.ref sa :: ss) rcvV tl)) :
    codeAny (model PR w) ⟨none, dp, some fs, gd, un⟩ (.call (.ref 406) ⟨[.ref C, .ref row], []⟩) (Done s g (TakeC (c5 w C dC b sq r t1 t2 t3 t4 t5 tr n1 n2 n3 room [] (.ref sa :: ss) rcvV tl) sq ss n2 sh sx su st1 st2 st3 ssV g)) s := by
  refine unbx ?_
  simp (discharger := (k_dflt (
      refine enterG (binds := [(Str.ofString "self", .ref C), (Str.ofString "waiter", .ref row)]) G hx N (by k_is) (by k_is) (by exact Nat.lt_of_le_of_lt hroom (by decide)) (by exact BindsTo.of_eq rfl) (by exact locs rfl) ?_ (by exact rfl) (by exact rfl) (by exact rfl) (by decide)
      intro L' h' F' N'
      have B' := G.B
      have X' := G.X
      have T' := G.T
      simp only [c5] at N'
      clear N hx
      try dsimp only
      (try k_fold)
      k_steps
      all_goals (try dsimp only)
      rename Fr _ _ _ _ => F
      k_extra "MY split"
      refine' Done.of F ⟨_, _, _, _, _, _, _, _, rfl, ?c1, ?c2, ?c3, ?c4⟩
      case c3 => k_extra "MY made"
      case c1 => k_extra "MY stay"
      case c2 => k_extra "MY now"
      case c4 => k_extra "MY apart"))) only [↓bx]

set_option maxRecDepth 100000 in
set_option maxHeartbeats 8000000 in
theorem take_D (G : Gd w mean mg mb ⟨none, dp, some fs, gd, un⟩ base fs g) (hx : Ext g s.heap) (hroom : dp ≤ 960) (hun : un ≤ 8800)
    (aps : Aps [C, dC, b, sq, r]) (tup : TupLed tl) (l3 : rcvV.length ≤ 100)
    (N : NewsG g s.heap (c5 w C dC b sq r t1 t2 t3 t4 t5 tr n1 n2 n3 room [] [] rcvV tl)) :
    codeAny (model PR w) ⟨none, dp, some fs, gd, un⟩ (.call (.ref 406) ⟨[.ref C, .ref row], []⟩) (Done s g (TakeD (c5 w C dC b sq r t1 t2 t3 t4 t5 tr n1 n2 n3 room [] [] rcvV tl) r rcvV n3 (.ref row) g)) s := by
  refine unbx ?_
  simp (discharger := (k_dflt (
      refine enterG (binds := [(Str.ofString "self", .ref C), (Str.ofString "waiter", .ref row)]) G hx N (by k_is) (by k_is) (by exact Nat.lt_of_le_of_lt hroom (by decide)) (by exact BindsTo.of_eq rfl) (by exact locs rfl) ?_ (by exact rfl) (by exact rfl) (by exact rfl) (by decide)
      intro L' h' F' N'
      have B' := G.B
      have X' := G.X
      have T' := G.T
      simp only [c5] at N'
      clear N hx
      try dsimp only
      (try k_fold)
      k_steps
      all_goals (try dsimp only)
      rename Fr _ _ _ _ => F
      k_extra "MY split"
      refine' Done.of F ⟨_, _, _, _, rfl, ?c1, ?c2, ?c3, ?c4⟩
      case c3 => k_extra "MY made"
      case c1 => k_extra "MY stay"
      case c2 => k_extra "MY now"
      case c4 => k_extra "MY apart"))) only [↓bx]

set_option maxRecDepth 100000 in
set_option maxHeartbeats 8000000 in
theorem forget_spec (G : Gd w mean mg mb ⟨none, dp, some fs, gd, un⟩ base fs g) (hx : Ext g s.heap) (hroom : dp ≤ 960) (hun : un ≤ 8800)
    (aps : Aps [C, dC, b, sq, r]) (tup : TupLed tl) (rowS : ∀ v ∈ sndV, IsRow tl v) (rowR : ∀ v ∈ rcvV, IsRow tl v) (l2 : sndV.length ≤ 100) (l3 : rcvV.length ≤ 100)
    (N : NewsG g s.heap (c5 w C dC b sq r t1 t2 t3 t4 t5 tr n1 n2 n3 room bufV sndV rcvV tl)) :
    codeAny (model PR w) ⟨none, dp, some fs, gd, un⟩ (.call (.ref 423) ⟨[.ref C, .int i ti], []⟩) (Done s g (ForgetP w (c5 w C dC b sq r t1 t2 t3 t4 t5 tr n1 n2 n3 room bufV sndV rcvV tl) dC b t1 t2 t3 t4 t5 tr room sndV rcvV tl i g)) s := by
  refine unbx ?_
  simp (discharger := (k_dflt (
      refine enterGC (binds := [(Str.ofString "self", .ref C), (Str.ofString "number", .int i ti)]) G hx N (by k_is) (by k_is) (by exact Nat.lt_of_le_of_lt hroom (by decide)) (by exact BindsTo.of_eq rfl) (by exact rfl) (by decide +kernel) ?_ (by exact rfl) (by exact rfl) (by exact rfl)
      intro L' h' tk' cells' F' N' Y' lt'
      have B' := G.B
      have X' := G.X
      have T' := G.T
      k_lt lt'
      k_cells Y'
      simp only [List.cons_append, List.nil_append, c5] at N'
      clear N hx
      have l2' : sndV.length ≤ 1000 := by omega
      have l3' : rcvV.length ≤ 1000 := by omega
      try dsimp only
      (try k_fold)
      k_steps
      all_goals (try dsimp only)
      rename Fr _ _ _ _ => F
      refine' Done.of F ⟨_, _, _, _, rfl, ⟨?c1, ?c2, ?c3, ?c4⟩, ?c5⟩
      case c3 => k_extra "MY made"
      case c1 => k_extra "MY stay"
      case c2 => k_extra "MY now"
      case c4 => exact allc ⟨by k_extra "MY ap", allc ⟨by k_extra "MY ap", List.forall_mem_nil _⟩⟩
      case c5 => exact AllAp.get (by with_reducible assumption) (by k_mem)))) only [↓bx]
end

end
section
example : True := by
  w_top off
  trivial
section
variable {w : World} {mean : ExcName → Option Value} {mg mb : Str → Option Value} {A₀ : Around} {dp un : Nat} {gd : Option (List Code)} {base g : Heap} {outer : List Env} {L : Addr} {m : Str → Option Value} {env : Env} {s : Shared} {E : Value → Shared → Prop} {Q : Value → Shared → Prop}
    {C dC b sq r row ra sa : Addr} {t1 t2 t3 t4 t5 tr w1 w2 w3 rt1 rt3 st1 st2 st3 ti : Tok} {n1 n2 n3 n rn sn : Nat} {room ih ix iu rh ru sh sx su i : Int} {bufV sndV rcvV rs bs ss : List Value} {sv rsV bv ssV : Value} {tl news : List (Addr × Obj)} {lst : List Addr} {gf gf2 : Obj → List (Addr × Obj)}
theorem sub_five {α : Type} {a b c d e : α} {l r : List α} (h1 : a ∈ r) (h2 : b ∈ r) (h3 : c ∈ r) (h4 : d ∈ r) (h5 : e ∈ r) (h : ∀ p ∈ l, p ∈ r) : ∀ p ∈ a :: b :: c :: d :: e :: l, p ∈ r :=
  sub_four h1 h2 h3 h4 (allc ⟨h5, h⟩)
theorem TupLed.cons {a : Addr} {vs : Array Value} {n : Nat} (h : TupLed tl) : TupLed ((a, tupOf vs n) :: tl) := allc ⟨rfl, h⟩
theorem put1 {h' : Heap} {p : Addr × Obj} {l : List (Addr × Obj)} {new : List (Addr × Obj)} (X : ∀ q ∈ new, h'.get? q.1 = some q.2 ∧ q.1 ≠ L ∧ g.get? q.1 = none) (hp : p ∈ new) (N : News g L h' l) : News g L h' (p :: l) := allc ⟨X p hp, N⟩


/-- what is made is apart from the whole ledger (told at the heap behind the call) -/
theorem made_apart {g' h' : Heap} {mu ch new : List (Addr × Obj)} {h : Heap} (N : News g L h news) (hs : ∀ p ∈ mu, p ∈ news) (hg' : ∀ b x, h.get? b = some x → b ∉ mu.map (·.1) → g'.get? b = some x) (X : Chg mu ch new g' h') : ∀ p ∈ new, AllAp p.1 news := fun _ hp => chg_apart N hs hg' X hp

/-- callH, that hands on what the ground keeps -/
theorem callI {f : Value} {args : List Value} {P : Heap → Value → Heap → Prop} {A : Around} (mu : List (Addr × Obj))
    (B : Below A₀ base outer g) (X : (Mine.hd0.heap_1_1 w.params).In g) (T : Top PV LO mean mg mb g) (F : Fr g L s.heap m) (hA : A.frames = some (env :: outer)) (hf : env.frame = some L) (hke : env.scope.kind = .function)
    (N : News g L s.heap mu)
    (spec : ∀ g', Gd w mean mg mb A base (env :: outer) g' → Ext g' s.heap → NewsG g' s.heap mu → codeAny (model PR w) A (.call f ⟨args, []⟩) (Done s g' (P g')) s)
    (k : ∀ v h' tk g', Fr g L h' m → (∀ b o, s.heap.get? b = some o → b ∉ mu.map (·.1) → h'.get? b = some o) → (∀ b o, s.heap.get? b = some o → b ∉ mu.map (·.1) → g'.get? b = some o) → (∀ nw, NewsG g' h' nw → News g L h' nw) → P g' v h' → Q v { s with heap := h', toks := tk }) :
    wpAny (model PR w) A (call f args) Q E s := by
  refine callH (P := fun g' v h' => P g' v h' ∧ ∀ b o, s.heap.get? b = some o → b ∉ mu.map (·.1) → g'.get? b = some o) mu B X T F hA hf hke N (fun g' G hx N' kp => codeAny_mono (spec g' G hx N') ?_) fun v h' tk g' F' keep toN hp => k v h' tk g' F' keep hp.2 toN hp.1
  rintro r s' ⟨v, h', tk, e1, e2, e3, e4⟩
  exact ⟨v, h', tk, e1, e2, e3, e4, kp⟩
theorem call_offerA (B : Below A₀ base outer g) (X : (Mine.hd0.heap_1_1 w.params).In g) (T : Top PV LO mean mg mb g) (F : Fr g L s.heap m) (N : News g L s.heap news)
    (h1 : (C, instObj 433 dC) ∈ news) (h2 : (dC, chanD w t1 t2 t3 t4 t5 room tr b sq r) ∈ news) (h3 : (b, listOf bufV.toArray n1) ∈ news) (h4 : (sq, listOf sndV.toArray n2) ∈ news) (h5 : (r, listOf (Value.ref ra :: rs).toArray n3) ∈ news) (hs : ∀ p ∈ tl, p ∈ news)
    (hf : env.frame = some L) (hke : env.scope.kind = .function) (hroom : dp ≤ 950) (hun : un ≤ 8700) (aps : Aps (C :: dC :: b :: sq :: r :: lst)) (tup : TupLed tl) (hrow : (row, tupOf #[.int ih w1, .int ix w2, .int iu w3, sv] n) ∈ news) (rd3 : Rd tl (.ref ra :: rs)) (l3 : (Value.ref ra :: rs).length ≤ 100) (hra : (ra, tupOf #[.int rh rt1, .none, .int ru rt3, rsV] rn) ∈ tl) (U : UpdF r (listOf (Value.ref ra :: rs).toArray n3) news gf)
    (k : ∀ told d1 d2 d3 u1 u2 u3 h' tk, Fr g L h' m → News g L h' ((told, listOf #[.ref d1, .ref d2] 0) :: (d1, tupOf #[.str (Str.ofString "done") u1] 0) :: (d2, tupOf #[.str (Str.ofString "woken") u2, .int rh rt1, .int ru rt3, rsV, .ref d3] 0) :: (d3, tupOf #[.str (Str.ofString "received") u3, .int ix w2, .bool true] 0) :: gf (listOf rs.toArray (n3 + 1))) → AllAp told news → AllAp d1 news → AllAp d2 news → AllAp d3 news → Q (.ref told) { s with heap := h', toks := tk }) :
    wpAny (model PR w) ⟨none, dp, some (env :: outer), gd, un⟩ (call (.ref 399) [.ref C, .ref row]) Q E s := by
  have hsub : ∀ p ∈ c5 w C dC b sq r t1 t2 t3 t4 t5 tr n1 n2 n3 room bufV sndV (Value.ref ra :: rs) ((row, tupOf #[.int ih w1, .int ix w2, .int iu w3, sv] n) :: tl), p ∈ news := sub_five h1 h2 h3 h4 h5 (allc ⟨hrow, hs⟩)
  refine callI (c5 w C dC b sq r t1 t2 t3 t4 t5 tr n1 n2 n3 room bufV sndV (Value.ref ra :: rs) ((row, tupOf #[.int ih w1, .int ix w2, .int iu w3, sv] n) :: tl)) B X T F rfl hf hke (fun p hp => N p (hsub p hp)) (fun g' G hx N' => offer_A G hx (Nat.le_trans hroom (by decide)) (Nat.le_trans hun (by decide)) aps.five tup.cons (rd3.mono fun p hp => .tail _ hp) l3 (.head _) (.tail _ hra) N') ?_
  rintro v h' tk g' F' keep keep' toN ⟨told, d1, d2, d3, u1, u2, u3, rfl, Y⟩
  have made := toN _ Y.made
  have ap := made_apart N hsub keep' Y
  exact k told d1 d2 d3 u1 u2 u3 h' tk F' (put1 made (.head _) (put1 made (.tail _ (.head _)) (put1 made (.tail _ (.tail _ (.head _))) (put1 made (.tail _ (.tail _ (.tail _ (.head _)))) (newsChg1 N U hsub keep Y))))) (ap _ (.head _)) (ap _ (.tail _ (.head _))) (ap _ (.tail _ (.tail _ (.head _)))) (ap _ (.tail _ (.tail _ (.tail _ (.head _)))))
theorem call_offerB (B : Below A₀ base outer g) (X : (Mine.hd0.heap_1_1 w.params).In g) (T : Top PV LO mean mg mb g) (F : Fr g L s.heap m) (N : News g L s.heap news)
    (h1 : (C, instObj 433 dC) ∈ news) (h2 : (dC, chanD w t1 t2 t3 t4 t5 room tr b sq r) ∈ news) (h3 : (b, listOf bufV.toArray n1) ∈ news) (h4 : (sq, listOf sndV.toArray n2) ∈ news) (h5 : (r, listOf ([] : List Value).toArray n3) ∈ news) (hs : ∀ p ∈ tl, p ∈ news)
    (hf : env.frame = some L) (hke : env.scope.kind = .function) (hroom : dp ≤ 950) (hun : un ≤ 8700) (aps : Aps (C :: dC :: b :: sq :: r :: lst)) (tup : TupLed tl) (hrow : (row, tupOf #[.int ih w1, .int ix w2, .int iu w3, sv] n) ∈ news) (ln1 : bufV.length ≤ 100) (hlt : (bufV.length : Int) < room) (U : UpdF b (listOf bufV.toArray n1) news gf)
    (k : ∀ told d1 u1 h' tk, Fr g L h' m → News g L h' ((told, listOf #[.ref d1] 0) :: (d1, tupOf #[.str (Str.ofString "done") u1] 0) :: gf (listOf (bufV ++ [Value.int ix w2]).toArray (n1 + 1))) → AllAp told news → AllAp d1 news → Q (.ref told) { s with heap := h', toks := tk }) :
    wpAny (model PR w) ⟨none, dp, some (env :: outer), gd, un⟩ (call (.ref 399) [.ref C, .ref row]) Q E s := by
  have hsub : ∀ p ∈ c5 w C dC b sq r t1 t2 t3 t4 t5 tr n1 n2 n3 room bufV sndV ([] : List Value) ((row, tupOf #[.int ih w1, .int ix w2, .int iu w3, sv] n) :: tl), p ∈ news := sub_five h1 h2 h3 h4 h5 (allc ⟨hrow, hs⟩)
  refine callI (c5 w C dC b sq r t1 t2 t3 t4 t5 tr n1 n2 n3 room bufV sndV ([] : List Value) ((row, tupOf #[.int ih w1, .int ix w2, .int iu w3, sv] n) :: tl)) B X T F rfl hf hke (fun p hp => N p (hsub p hp)) (fun g' G hx N' => offer_B G hx (Nat.le_trans hroom (by decide)) (Nat.le_trans hun (by decide)) aps.five tup.cons ln1 hlt (.head _) N') ?_
  rintro v h' tk g' F' keep keep' toN ⟨told, d1, u1, rfl, Y⟩
  have made := toN _ Y.made
  have ap := made_apart N hsub keep' Y
  exact k told d1 u1 h' tk F' (put1 made (.head _) (put1 made (.tail _ (.head _)) (newsChg1 N U hsub keep Y))) (ap _ (.head _)) (ap _ (.tail _ (.head _)))
theorem call_offerC (B : Below A₀ base outer g) (X : (Mine.hd0.heap_1_1 w.params).In g) (T : Top PV LO mean mg mb g) (F : Fr g L s.heap m) (N : News g L s.heap news)
    (h1 : (C, instObj 433 dC) ∈ news) (h2 : (dC, chanD w t1 t2 t3 t4 t5 room tr b sq r) ∈ news) (h3 : (b, listOf bufV.toArray n1) ∈ news) (h4 : (sq, listOf sndV.toArray n2) ∈ news) (h5 : (r, listOf ([] : List Value).toArray n3) ∈ news) (hs : ∀ p ∈ tl, p ∈ news)
    (hf : env.frame = some L) (hke : env.scope.kind = .function) (hroom : dp ≤ 950) (hun : un ≤ 8700) (aps : Aps (C :: dC :: b :: sq :: r :: lst)) (tup : TupLed tl) (hrow : (row, tupOf #[.int ih w1, .int ix w2, .int iu w3, sv] n) ∈ news) (ln1 : bufV.length ≤ 100) (ln2 : sndV.length ≤ 100) (hlt : ¬ (bufV.length : Int) < room) (U : UpdF sq (listOf sndV.toArray n2) news gf)
    (k : ∀ told d1 u1 h' tk, Fr g L h' m → News g L h' ((told, listOf #[.ref d1] 0) :: (d1, tupOf #[.str (Str.ofString "blocked") u1] 0) :: gf (listOf (sndV ++ [Value.ref row]).toArray (n2 + 1))) → AllAp told news → AllAp d1 news → Q (.ref told) { s with heap := h', toks := tk }) :
    wpAny (model PR w) ⟨none, dp, some (env :: outer), gd, un⟩ (call (.ref 399) [.ref C, .ref row]) Q E s := by
  have hsub : ∀ p ∈ c5 w C dC b sq r t1 t2 t3 t4 t5 tr n1 n2 n3 room bufV sndV ([] : List Value) ((row, tupOf #[.int ih w1, .int ix w2, .int iu w3, sv] n) :: tl), p ∈ news := sub_five h1 h2 h3 h4 h5 (allc ⟨hrow, hs⟩)
  refine callI (c5 w C dC b sq r t1 t2 t3 t4 t5 tr n1 n2 n3 room bufV sndV ([] : List Value) ((row, tupOf #[.int ih w1, .int ix w2, .int iu w3, sv] n) :: tl)) B X T F rfl hf hke (fun p hp => N p (hsub p hp)) (fun g' G hx N' => offer_C G hx (Nat.le_trans hroom (by decide)) (Nat.le_trans hun (by decide)) aps.five tup.cons ln1 ln2 hlt (.head _) N') ?_
  rintro v h' tk g' F' keep keep' toN ⟨told, d1, u1, rfl, Y⟩
  have made := toN _ Y.made
  have ap := made_apart N hsub keep' Y
  exact k told d1 u1 h' tk F' (put1 made (.head _) (put1 made (.tail _ (.head _)) (newsChg1 N U hsub keep Y))) (ap _ (.head _)) (ap _ (.tail _ (.head _)))
theorem call_takeA (B : Below A₀ base outer g) (X : (Mine.hd0.heap_1_1 w.params).In g) (T : Top PV LO mean mg mb g) (F : Fr g L s.heap m) (N : News g L s.heap news)
    (h1 : (C, instObj 433 dC) ∈ news) (h2 : (dC, chanD w t1 t2 t3 t4 t5 room tr b sq r) ∈ news) (h3 : (b, listOf (bv :: bs).toArray n1) ∈ news) (h4 : (sq, listOf (Value.ref sa :: ss).toArray n2) ∈ news) (h5 : (r, listOf rcvV.toArray n3) ∈ news) (hs : ∀ p ∈ tl, p ∈ news)
    (hf : env.frame = some L) (hke : env.scope.kind = .function) (hroom : dp ≤ 950) (hun : un ≤ 8700) (aps : Aps (C :: dC :: b :: sq :: r :: lst)) (tup : TupLed tl) (rd1 : Rd tl (bv :: bs)) (rd2 : Rd tl (.ref sa :: ss)) (ln1 : (bv :: bs).length ≤ 100) (ln2 : (Value.ref sa :: ss).length ≤ 100) (hsa : (sa, tupOf #[.int sh st1, .int sx st2, .int su st3, ssV] sn) ∈ tl) (U : UpdF b (listOf (bv :: bs).toArray n1) news gf) (U2 : UpdF sq (listOf (Value.ref sa :: ss).toArray n2) (gf (listOf (bs ++ [Value.int sx st2]).toArray (n1 + 1 + 1))) gf2)
    (k : ∀ told d1 d2 d3 u1 u2 u3 nt h' tk, Fr g L h' m → News g L h' ((told, listOf #[.ref d1, .ref d2] nt) :: (d1, tupOf #[.str (Str.ofString "done") u1, bv, .bool true] 0) :: (d2, tupOf #[.str (Str.ofString "woken") u2, .int sh st1, .int su st3, ssV, .ref d3] 0) :: (d3, tupOf #[.str (Str.ofString "sent") u3] 0) :: gf2 (listOf ss.toArray (n2 + 1))) → AllAp told news → AllAp d1 news → AllAp d2 news → AllAp d3 news → Q (.ref told) { s with heap := h', toks := tk }) :
    wpAny (model PR w) ⟨none, dp, some (env :: outer), gd, un⟩ (call (.ref 406) [.ref C, .ref row]) Q E s := by
  have hsub : ∀ p ∈ c5 w C dC b sq r t1 t2 t3 t4 t5 tr n1 n2 n3 room (bv :: bs) (Value.ref sa :: ss) rcvV tl, p ∈ news := sub_five h1 h2 h3 h4 h5 hs
  refine callI (c5 w C dC b sq r t1 t2 t3 t4 t5 tr n1 n2 n3 room (bv :: bs) (Value.ref sa :: ss) rcvV tl) B X T F rfl hf hke (fun p hp => N p (hsub p hp)) (fun g' G hx N' => take_A G hx (Nat.le_trans hroom (by decide)) (Nat.le_trans hun (by decide)) aps.five tup rd1 rd2 ln1 ln2 hsa N') ?_
  rintro v h' tk g' F' keep keep' toN ⟨told, d1, d2, d3, u1, u2, u3, nt, rfl, Y⟩
  have made := toN _ Y.made
  have ap := made_apart N hsub keep' Y
  exact k told d1 d2 d3 u1 u2 u3 nt h' tk F' (put1 made (.head _) (put1 made (.tail _ (.head _)) (put1 made (.tail _ (.tail _ (.head _))) (put1 made (.tail _ (.tail _ (.tail _ (.head _)))) (newsChg2 N U U2 hsub keep Y))))) (ap _ (.head _)) (ap _ (.tail _ (.head _))) (ap _ (.tail _ (.tail _ (.head _)))) (ap _ (.tail _ (.tail _ (.tail _ (.head _)))))
theorem call_takeB (B : Below A₀ base outer g) (X : (Mine.hd0.heap_1_1 w.params).In g) (T : Top PV LO mean mg mb g) (F : Fr g L s.heap m) (N : News g L s.heap news)
    (h1 : (C, instObj 433 dC) ∈ news) (h2 : (dC, chanD w t1 t2 t3 t4 t5 room tr b sq r) ∈ news) (h3 : (b, listOf (bv :: bs).toArray n1) ∈ news) (h4 : (sq, listOf ([] : List Value).toArray n2) ∈ news) (h5 : (r, listOf rcvV.toArray n3) ∈ news) (hs : ∀ p ∈ tl, p ∈ news)
    (hf : env.frame = some L) (hke : env.scope.kind = .function) (hroom : dp ≤ 950) (hun : un ≤ 8700) (aps : Aps (C :: dC :: b :: sq :: r :: lst)) (tup : TupLed tl) (rd1 : Rd tl (bv :: bs)) (ln1 : (bv :: bs).length ≤ 100) (U : UpdF b (listOf (bv :: bs).toArray n1) news gf)
    (k : ∀ told d1 u1 nt h' tk, Fr g L h' m → News g L h' ((told, listOf #[.ref d1] nt) :: (d1, tupOf #[.str (Str.ofString "done") u1, bv, .bool true] 0) :: gf (listOf bs.toArray (n1 + 1))) → AllAp told news → AllAp d1 news → Q (.ref told) { s with heap := h', toks := tk }) :
    wpAny (model PR w) ⟨none, dp, some (env :: outer), gd, un⟩ (call (.ref 406) [.ref C, .ref row]) Q E s := by
  have hsub : ∀ p ∈ c5 w C dC b sq r t1 t2 t3 t4 t5 tr n1 n2 n3 room (bv :: bs) ([] : List Value) rcvV tl, p ∈ news := sub_five h1 h2 h3 h4 h5 hs
  refine callI (c5 w C dC b sq r t1 t2 t3 t4 t5 tr n1 n2 n3 room (bv :: bs) ([] : List Value) rcvV tl) B X T F rfl hf hke (fun p hp => N p (hsub p hp)) (fun g' G hx N' => take_B G hx (Nat.le_trans hroom (by decide)) (Nat.le_trans hun (by decide)) aps.five tup rd1 ln1 N') ?_
  rintro v h' tk g' F' keep keep' toN ⟨told, d1, u1, nt, rfl, Y⟩
  have made := toN _ Y.made
  have ap := made_apart N hsub keep' Y
  exact k told d1 u1 nt h' tk F' (put1 made (.head _) (put1 made (.tail _ (.head _)) (newsChg1 N U hsub keep Y))) (ap _ (.head _)) (ap _ (.tail _ (.head _)))
theorem call_takeC (B : Below A₀ base outer g) (X : (Mine.hd0.heap_1_1 w.params).In g) (T : Top PV LO mean mg mb g) (F : Fr g L s.heap m) (N : News g L s.heap news)
    (h1 : (C, instObj 433 dC) ∈ news) (h2 : (dC, chanD w t1 t2 t3 t4 t5 room tr b sq r) ∈ news) (h3 : (b, listOf ([] : List Value).toArray n1) ∈ news) (h4 : (sq, listOf (Value.ref sa :: ss).toArray n2) ∈ news) (h5 : (r, listOf rcvV.toArray n3) ∈ news) (hs : ∀ p ∈ tl, p ∈ news)
    (hf : env.frame = some L) (hke : env.scope.kind = .function) (hroom : dp ≤ 950) (hun : un ≤ 8700) (aps : Aps (C :: dC :: b :: sq :: r :: lst)) (tup : TupLed tl) (rd2 : Rd tl (.ref sa :: ss)) (ln2 : (Value.ref sa :: ss).length ≤ 100) (hsa : (sa, tupOf #[.int sh st1, .int sx st2, .int su st3, ssV] sn) ∈ tl) (U : UpdF sq (listOf (Value.ref sa :: ss).toArray n2) news gf)
    (k : ∀ told d1 d2 d3 u1 u2 u3 nt h' tk, Fr g L h' m → News g L h' ((told, listOf #[.ref d1, .ref d2] nt) :: (d1, tupOf #[.str (Str.ofString "done") u1, .int sx st2, .bool true] 0) :: (d2, tupOf #[.str (Str.ofString "woken") u2, .int sh st1, .int su st3, ssV, .ref d3] 0) :: (d3, tupOf #[.str (Str.ofString "sent") u3] 0) :: gf (listOf ss.toArray (n2 + 1))) → AllAp told news → AllAp d1 news → AllAp d2 news → AllAp d3 news → Q (.ref told) { s with heap := h', toks := tk }) :
    wpAny (model PR w) ⟨none, dp, some (env :: outer), gd, un⟩ (call (.ref 406) [.ref C, .ref row]) Q E s := by
  have hsub : ∀ p ∈ c5 w C dC b sq r t1 t2 t3 t4 t5 tr n1 n2 n3 room ([] : List Value) (Value.ref sa :: ss) rcvV tl, p ∈ news := sub_five h1 h2 h3 h4 h5 hs
  refine callI (c5 w C dC b sq r t1 t2 t3 t4 t5 tr n1 n2 n3 room ([] : List Value) (Value.ref sa :: ss) rcvV tl) B X T F rfl hf hke (fun p hp => N p (hsub p hp)) (fun g' G hx N' => take_C G hx (Nat.le_trans hroom (by decide)) (Nat.le_trans hun (by decide)) aps.five tup rd2 ln2 hsa N') ?_
  rintro v h' tk g' F' keep keep' toN ⟨told, d1, d2, d3, u1, u2, u3, nt, rfl, Y⟩
  have made := toN _ Y.made
  have ap := made_apart N hsub keep' Y
  exact k told d1 d2 d3 u1 u2 u3 nt h' tk F' (put1 made (.head _) (put1 made (.tail _ (.head _)) (put1 made (.tail _ (.tail _ (.head _))) (put1 made (.tail _ (.tail _ (.tail _ (.head _)))) (newsChg1 N U hsub keep Y))))) (ap _ (.head _)) (ap _ (.tail _ (.head _))) (ap _ (.tail _ (.tail _ (.head _)))) (ap _ (.tail _ (.tail _ (.tail _ (.head _)))))
theorem call_takeD (B : Below A₀ base outer g) (X : (Mine.hd0.heap_1_1 w.params).In g) (T : Top PV LO mean mg mb g) (F : Fr g L s.heap m) (N : News g L s.heap news)
    (h1 : (C, instObj 433 dC) ∈ news) (h2 : (dC, chanD w t1 t2 t3 t4 t5 room tr b sq r) ∈ news) (h3 : (b, listOf ([] : List Value).toArray n1) ∈ news) (h4 : (sq, listOf ([] : List Value).toArray n2) ∈ news) (h5 : (r, listOf rcvV.toArray n3) ∈ news) (hs : ∀ p ∈ tl, p ∈ news)
    (hf : env.frame = some L) (hke : env.scope.kind = .function) (hroom : dp ≤ 950) (hun : un ≤ 8700) (aps : Aps (C :: dC :: b :: sq :: r :: lst)) (tup : TupLed tl) (ln3 : rcvV.length ≤ 100) (U : UpdF r (listOf rcvV.toArray n3) news gf)
    (k : ∀ told d1 u1 nt h' tk, Fr g L h' m → News g L h' ((told, listOf #[.ref d1] nt) :: (d1, tupOf #[.str (Str.ofString "blocked") u1] 0) :: gf (listOf (rcvV ++ [Value.ref row]).toArray (n3 + 1))) → AllAp told news → AllAp d1 news → Q (.ref told) { s with heap := h', toks := tk }) :
    wpAny (model PR w) ⟨none, dp, some (env :: outer), gd, un⟩ (call (.ref 406) [.ref C, .ref row]) Q E s := by
  have hsub : ∀ p ∈ c5 w C dC b sq r t1 t2 t3 t4 t5 tr n1 n2 n3 room ([] : List Value) ([] : List Value) rcvV tl, p ∈ news := sub_five h1 h2 h3 h4 h5 hs
  refine callI (c5 w C dC b sq r t1 t2 t3 t4 t5 tr n1 n2 n3 room ([] : List Value) ([] : List Value) rcvV tl) B X T F rfl hf hke (fun p hp => N p (hsub p hp)) (fun g' G hx N' => take_D G hx (Nat.le_trans hroom (by decide)) (Nat.le_trans hun (by decide)) aps.five tup ln3 N') ?_
  rintro v h' tk g' F' keep keep' toN ⟨told, d1, u1, nt, rfl, Y⟩
  have made := toN _ Y.made
  have ap := made_apart N hsub keep' Y
  exact k told d1 u1 nt h' tk F' (put1 made (.head _) (put1 made (.tail _ (.head _)) (newsChg1 N U hsub keep Y))) (ap _ (.head _)) (ap _ (.tail _ (.head _)))
theorem call_forget (B : Below A₀ base outer g) (X : (Mine.hd0.heap_1_1 w.params).In g) (T : Top PV LO mean mg mb g) (F : Fr g L s.heap m) (N : News g L s.heap news)
    (h1 : (C, instObj 433 dC) ∈ news) (h2 : (dC, chanD w t1 t2 t3 t4 t5 room tr b sq r) ∈ news) (h3 : (b, listOf bufV.toArray n1) ∈ news) (h4 : (sq, listOf sndV.toArray n2) ∈ news) (h5 : (r, listOf rcvV.toArray n3) ∈ news) (hs : ∀ p ∈ tl, p ∈ news)
    (hf : env.frame = some L) (hke : env.scope.kind = .function) (hroom : dp ≤ 950) (hun : un ≤ 8700) (aps : Aps (C :: dC :: b :: sq :: r :: lst)) (tup : TupLed tl) (rowS : ∀ v ∈ sndV, IsRow tl v) (rowR : ∀ v ∈ rcvV, IsRow tl v) (ln2 : sndV.length ≤ 100) (ln3 : rcvV.length ≤ 100) (U : UpdF dC (chanD w t1 t2 t3 t4 t5 room tr b sq r) news gf)
    (k : ∀ l1 l2 n1' n2' h' tk, Fr g L h' m → News g L h' ((l1, listOf (sndV.filter (keepP tl i)).toArray n1') :: (l2, listOf (rcvV.filter (keepP tl i)).toArray n2') :: gf (chanD w t1 t2 t3 t4 t5 room tr b l1 l2)) → AllAp l1 news → AllAp l2 news → l1 ≠ l2 → Q .none { s with heap := h', toks := tk }) :
    wpAny (model PR w) ⟨none, dp, some (env :: outer), gd, un⟩ (call (.ref 423) [.ref C, .int i ti]) Q E s := by
  have hsub : ∀ p ∈ c5 w C dC b sq r t1 t2 t3 t4 t5 tr n1 n2 n3 room bufV sndV rcvV tl, p ∈ news := sub_five h1 h2 h3 h4 h5 hs
  refine callI (c5 w C dC b sq r t1 t2 t3 t4 t5 tr n1 n2 n3 room bufV sndV rcvV tl) B X T F rfl hf hke (fun p hp => N p (hsub p hp)) (fun g' G hx N' => forget_spec G hx (Nat.le_trans hroom (by decide)) (Nat.le_trans hun (by decide)) aps.five tup rowS rowR ln2 ln3 N') ?_
  rintro v h' tk g' F' keep keep' toN ⟨l1, l2, n1', n2', rfl, Y, ne⟩
  have made := toN _ Y.made
  have ap := made_apart N hsub keep' Y
  exact k l1 l2 n1' n2' h' tk F' (put1 made (.head _) (put1 made (.tail _ (.head _)) (newsChg1 N U hsub keep Y))) (ap _ (.head _)) (ap _ (.tail _ (.head _))) ne
end
example : True := by
  (k_with "call ref!" => (k_here; (with_reducible show wpAny _ _ (call (Value.ref 399) _) _ _ _); k_dflt (first | (refine' call_offerA ?k1_z ?k2_z ?k3_z ?k4_z ?k5_z ?h1_z ?h2_z ?h3_z ?h4_z ?h5_z ?hs_z ?hf_z ?hk_z ?hr_z ?hu_z ?ap_z ?tu_z ?ro_z ?rd_z ?la_z ?as_z ?U_z ?_; (case hf_z => exact rfl); (case hk_z => exact rfl); (case k1_z => k_asm); (case k2_z => k_asm); (case k3_z => k_asm); (case k4_z => k_asm); (case k5_z => k_asm); (case tu_z => with_reducible assumption); (case h1_z => k_mem); (case h2_z => k_mem); (case h3_z => k_mem); (case h4_z => k_mem); (case h5_z => k_mem); (case ro_z => k_mem); (case as_z => with_reducible assumption); (case rd_z => k_asm); (case ap_z => with_reducible assumption); (case hs_z => k_extra "MY sub"); (case hr_z => k_extra "MY room"); (case hu_z => k_extra "MY room"); (case la_z => k_extra "MY len"); (case U_z => k_updF); intro told' e1' e2' e3' u1' u2' u3' h' tk' F' N' ap1' ap2' ap3' ap4'; (try dsimp only at N'); (try k_sweep)) | (refine' call_offerB ?k1_z ?k2_z ?k3_z ?k4_z ?k5_z ?h1_z ?h2_z ?h3_z ?h4_z ?h5_z ?hs_z ?hf_z ?hk_z ?hr_z ?hu_z ?ap_z ?tu_z ?ro_z ?la_z ?lt_z ?U_z ?_; (case hf_z => exact rfl); (case hk_z => exact rfl); (case k1_z => k_asm); (case k2_z => k_asm); (case k3_z => k_asm); (case k4_z => k_asm); (case k5_z => k_asm); (case tu_z => with_reducible assumption); (case h1_z => k_mem); (case h2_z => k_mem); (case h3_z => k_mem); (case h4_z => k_mem); (case h5_z => k_mem); (case ro_z => k_mem); (case ap_z => with_reducible assumption); (case hs_z => k_extra "MY sub"); (case hr_z => k_extra "MY room"); (case hu_z => k_extra "MY room"); (case la_z => k_extra "MY len"); (case lt_z => with_reducible assumption); (case U_z => k_updF); intro told' e1' u1' h' tk' F' N' ap1' ap2'; (try dsimp only at N'); (try k_sweep)) | (refine' call_offerC ?k1_z ?k2_z ?k3_z ?k4_z ?k5_z ?h1_z ?h2_z ?h3_z ?h4_z ?h5_z ?hs_z ?hf_z ?hk_z ?hr_z ?hu_z ?ap_z ?tu_z ?ro_z ?la_z ?lb_z ?lt_z ?U_z ?_; (case hf_z => exact rfl); (case hk_z => exact rfl); (case k1_z => k_asm); (case k2_z => k_asm); (case k3_z => k_asm); (case k4_z => k_asm); (case k5_z => k_asm); (case tu_z => with_reducible assumption); (case h1_z => k_mem); (case h2_z => k_mem); (case h3_z => k_mem); (case h4_z => k_mem); (case h5_z => k_mem); (case ro_z => k_mem); (case ap_z => with_reducible assumption); (case hs_z => k_extra "MY sub"); (case hr_z => k_extra "MY room"); (case hu_z => k_extra "MY room"); (case la_z => k_extra "MY len"); (case lb_z => k_extra "MY len"); (case lt_z => with_reducible assumption); (case U_z => k_updF); intro told' e1' u1' h' tk' F' N' ap1' ap2'; (try dsimp only at N'); (try k_sweep)))))
  (k_with "call ref!" => (k_here; (with_reducible show wpAny _ _ (call (Value.ref 406) _) _ _ _); k_dflt (first | (refine' call_takeA ?k1_z ?k2_z ?k3_z ?k4_z ?k5_z ?h1_z ?h2_z ?h3_z ?h4_z ?h5_z ?hs_z ?hf_z ?hk_z ?hr_z ?hu_z ?ap_z ?tu_z ?rd_z ?re_z ?la_z ?lb_z ?as_z ?U_z ?V_z ?_; (case hf_z => exact rfl); (case hk_z => exact rfl); (case k1_z => k_asm); (case k2_z => k_asm); (case k3_z => k_asm); (case k4_z => k_asm); (case k5_z => k_asm); (case tu_z => with_reducible assumption); (case h1_z => k_mem); (case h2_z => k_mem); (case h3_z => k_mem); (case h4_z => k_mem); (case h5_z => k_mem); (case as_z => with_reducible assumption); (case rd_z => k_asm); (case re_z => k_asm); (case ap_z => with_reducible assumption); (case hs_z => k_extra "MY sub"); (case hr_z => k_extra "MY room"); (case hu_z => k_extra "MY room"); (case la_z => k_extra "MY len"); (case lb_z => k_extra "MY len"); (case U_z => k_updF); (case V_z => (try dsimp only); k_updF); intro told' e1' e2' e3' u1' u2' u3' nt' h' tk' F' N' ap1' ap2' ap3' ap4'; (try dsimp only at N'); (try k_sweep)) | (refine' call_takeB ?k1_z ?k2_z ?k3_z ?k4_z ?k5_z ?h1_z ?h2_z ?h3_z ?h4_z ?h5_z ?hs_z ?hf_z ?hk_z ?hr_z ?hu_z ?ap_z ?tu_z ?rd_z ?la_z ?U_z ?_; (case hf_z => exact rfl); (case hk_z => exact rfl); (case k1_z => k_asm); (case k2_z => k_asm); (case k3_z => k_asm); (case k4_z => k_asm); (case k5_z => k_asm); (case tu_z => with_reducible assumption); (case h1_z => k_mem); (case h2_z => k_mem); (case h3_z => k_mem); (case h4_z => k_mem); (case h5_z => k_mem); (case rd_z => k_asm); (case ap_z => with_reducible assumption); (case hs_z => k_extra "MY sub"); (case hr_z => k_extra "MY room"); (case hu_z => k_extra "MY room"); (case la_z => k_extra "MY len"); (case U_z => k_updF); intro told' e1' u1' nt' h' tk' F' N' ap1' ap2'; (try dsimp only at N'); (try k_sweep)) | (refine' call_takeC ?k1_z ?k2_z ?k3_z ?k4_z ?k5_z ?h1_z ?h2_z ?h3_z ?h4_z ?h5_z ?hs_z ?hf_z ?hk_z ?hr_z ?hu_z ?ap_z ?tu_z ?rd_z ?la_z ?as_z ?U_z ?_; (case hf_z => exact rfl); (case hk_z => exact rfl); (case k1_z => k_asm); (case k2_z => k_asm); (case k3_z => k_asm); (case k4_z => k_asm); (case k5_z => k_asm); (case tu_z => with_reducible assumption); (case h1_z => k_mem); (case h2_z => k_mem); (case h3_z => k_mem); (case h4_z => k_mem); (case h5_z => k_mem); (case as_z => with_reducible assumption); (case rd_z => k_asm); (case ap_z => with_reducible assumption); (case hs_z => k_extra "MY sub"); (case hr_z => k_extra "MY room"); (case hu_z => k_extra "MY room"); (case la_z => k_extra "MY len"); (case U_z => k_updF); intro told' e1' e2' e3' u1' u2' u3' nt' h' tk' F' N' ap1' ap2' ap3' ap4'; (try dsimp only at N'); (try k_sweep)) | (refine' call_takeD ?k1_z ?k2_z ?k3_z ?k4_z ?k5_z ?h1_z ?h2_z ?h3_z ?h4_z ?h5_z ?hs_z ?hf_z ?hk_z ?hr_z ?hu_z ?ap_z ?tu_z ?la_z ?U_z ?_; (case hf_z => exact rfl); (case hk_z => exact rfl); (case k1_z => k_asm); (case k2_z => k_asm); (case k3_z => k_asm); (case k4_z => k_asm); (case k5_z => k_asm); (case tu_z => with_reducible assumption); (case h1_z => k_mem); (case h2_z => k_mem); (case h3_z => k_mem); (case h4_z => k_mem); (case h5_z => k_mem); (case ap_z => with_reducible assumption); (case hs_z => k_extra "MY sub"); (case hr_z => k_extra "MY room"); (case hu_z => k_extra "MY room"); (case la_z => k_extra "MY len"); (case U_z => k_updF); intro told' e1' u1' nt' h' tk' F' N' ap1' ap2'; (try dsimp only at N'); (try k_sweep)))))
  (k_with "call ref!" => (k_here; (with_reducible show wpAny _ _ (call (Value.ref 423) _) _ _ _); k_dflt (refine' call_forget ?k1_z ?k2_z ?k3_z ?k4_z ?k5_z ?h1_z ?h2_z ?h3_z ?h4_z ?h5_z ?hs_z ?hf_z ?hk_z ?hr_z ?hu_z ?ap_z ?tu_z ?rS_z ?rR_z ?la_z ?lb_z ?U_z ?_; (case hf_z => exact rfl); (case hk_z => exact rfl); (case k1_z => k_asm); (case k2_z => k_asm); (case k3_z => k_asm); (case k4_z => k_asm); (case k5_z => k_asm); (case tu_z => with_reducible assumption); (case h1_z => k_mem); (case h2_z => k_mem); (case h3_z => k_mem); (case h4_z => k_mem); (case h5_z => k_mem); (case rS_z => with_reducible assumption); (case rR_z => with_reducible assumption); (case ap_z => with_reducible assumption); (case hs_z => k_extra "MY sub"); (case hr_z => k_extra "MY room"); (case hu_z => k_extra "MY room"); (case la_z => k_extra "MY len"); (case lb_z => k_extra "MY len"); (case U_z => k_updF); intro l1' l2' n1' n2' h' tk' F' N' ap1' ap2' ne'; (try dsimp only at N'); (try k_sweep))))
  trivial

end
section
example : True := by
  w_top off
  trivial
theorem isnot_sel {M : Model} {A : Around} {E : Value → Shared → Prop} {s : Shared} {v : Value} {Q : Value → Shared → Prop} (hs : isSel v = true) (h0 : v = .none → Q (.bool false) s) (h1 : ∀ i t, v = .int i t → Q (.bool true) s) :
    wpAny M A (compareOp .IsNot v .none) Q E s := by
  rcases isSel_or hs with rfl | ⟨i, t, rfl⟩
  · exact isnot_none_none (h0 rfl)
  · exact isnot_int_none (h1 i t rfl)
theorem call_oneV {w : World} {mean : ExcName → Option Value} {mg mb : Str → Option Value} {A₀ : Around} {dp un : Nat} {gd : Option (List Code)} {base g : Heap} {outer : List Env} {L : Addr} {m : Str → Option Value} {env : Env} {s : Shared} {E : Value → Shared → Prop} {Q : Value → Shared → Prop}
    {pot l : Addr} {a b : Int} {ta tb : Tok} {vs : List Value} {n : Nat} {news : List (Addr × Obj)} {gf : Obj → List (Addr × Obj)}
    (B : Below A₀ base outer g) (X : (Mine.hd0.heap_1_1 w.params).In g) (T : Top PV LO mean mg mb g) (F : Fr g L s.heap m) (N : News g L s.heap news) (U : UpdF pot (potObj a b ta tb) news gf)
    (hl : (l, listOf vs.toArray n) ∈ news) (hne : l ≠ pot)
    (hf : env.frame = some L) (hke : env.scope.kind = .function) (hroom : dp ≤ 970) (hun : un ≤ 8900)
    (ok : PotOk a b) (hl1 : 1 ≤ vs.length) (hl2 : vs.length ≤ 8) (hsel : vs.all isSel = true)
    (k : ∀ v h' tk a' ta' b' tb', isSel v = true → Fr g L h' m → News g L h' (gf (potObj a' b' ta' tb')) → PotOk a' b' → Q v { s with heap := h', toks := tk }) :
    wpAny (model PR w) ⟨none, dp, some (env :: outer), gd, un⟩ (call (.ref 730) [.ref pot, .ref l]) Q E s :=
  call_one B X T F N U hl hne hf hke hroom hun ok hl1 hl2 fun v h' tk a' ta' b' tb' hv F' N' ok' => k v h' tk a' ta' b' tb' (List.all_eq_true.mp hsel v hv) F' N' ok'
theorem all_snoc {P : Value → Prop} {vs : List Value} {x : Value} (h : ∀ v ∈ vs, P v) (hx : P x) : ∀ v ∈ vs ++ [x], P v := fun v hv => by
  rcases List.mem_append.mp hv with q | q
  · exact h v q
  · rw [List.mem_singleton.mp q]; exact hx
theorem all_tail {P : Value → Prop} {vs : List Value} {x : Value} (h : ∀ v ∈ x :: vs, P v) : ∀ v ∈ vs, P v := fun v hv => h v (.tail _ hv)
theorem all_filter {P : Value → Prop} {vs : List Value} {p : Value → Bool} (h : ∀ v ∈ vs, P v) : ∀ v ∈ vs.filter p, P v := fun v hv => h v (List.mem_filter.mp hv).1
theorem snd_mono {tl : List (Addr × Obj)} {p : Addr × Obj} {vs : List Value} (h : ∀ v ∈ vs, IsSRow tl v) : ∀ v ∈ vs, IsSRow (p :: tl) v := fun v hv => (h v hv).mono fun _ q => .tail _ q
theorem rcv_mono {tl : List (Addr × Obj)} {p : Addr × Obj} {vs : List Value} (h : ∀ v ∈ vs, IsRRow tl v) : ∀ v ∈ vs, IsRRow (p :: tl) v := fun v hv => (h v hv).mono fun _ q => .tail _ q
mutual
theorem eqv_refl : ∀ d : PyData, d.canLay0 = true → PyData.eqv d d = true
  | .none, _ => by simp [PyData.eqv]
  | .bool b, _ => by simp [PyData.eqv]
  | .int i, _ => by simp [PyData.eqv]
  | .str x, _ => by simp [PyData.eqv]
  | .list xs, h => by simp only [PyData.eqv]; exact eqvAll_refl xs (by simpa [PyData.canLay0] using h)
  | .tuple xs, h => by simp only [PyData.eqv]; exact eqvAll_refl xs (by simpa [PyData.canLay0] using h)
  | .dict _, h => by simp [PyData.canLay0] at h
theorem eqvAll_refl : ∀ ds : List PyData, PyData.canLayAll0 ds = true → PyData.eqvAll ds ds = true
  | [], _ => by simp [PyData.eqvAll]
  | d :: ds, h => by
    have h' : d.canLay0 = true ∧ PyData.canLayAll0 ds = true := by simpa [PyData.canLayAll0] using h
    simp only [PyData.eqvAll, eqv_refl d h'.1, eqvAll_refl ds h'.2, Bool.and_self]
end
theorem eq_same {w : World} {A : Around} {E : Value → Shared → Prop} {s : Shared} {a b : Value} {d : PyData} {as bs : List Addr} {Q : Value → Shared → Prop} (ra : Reads s.heap a d as) (rb : Reads s.heap b d bs) (hs : SeqAt.shaped d = true) (hu : A.units + 64 < cLine)
    (h : Q (.bool true) s) : wpAny (model PR w) A (compareOp .Eq a b) Q E s := eq_dataH ra rb hs hs hu (by rw [eqv_refl d (SeqAt.canLay_of_shaped hs)]; exact h)
theorem selP_lay (v : Value) : (selP v).canLay0 = true := by cases v <;> rfl
theorem selP_depth (v : Value) : (selP v).depth = 0 := by cases v <;> rfl
theorem ok_done : PyData.strOk (Str.ofString "done") = true := by decide +kernel
theorem ok_woken : PyData.strOk (Str.ofString "woken") = true := by decide +kernel
theorem ok_received : PyData.strOk (Str.ofString "received") = true := by decide +kernel
theorem ok_sent : PyData.strOk (Str.ofString "sent") = true := by decide +kernel
theorem ok_blocked : PyData.strOk (Str.ofString "blocked") = true := by decide +kernel
/-- what is known of a channel and its book, less the ledger itself -/
structure StOk (w : World) (oD : Obj) (C dC b sq r D k gv tk pot : Addr) (bufV sndV rcvV : List Value) (tl : List (Addr × Obj)) (x y : Int) (len : Nat) : Prop where
  book : IsBook w oD k gv tk
  aps : Aps [C, dC, b, sq, r, D, k, gv, tk, pot]
  tup : TupLed tl
  bufI : ∀ v ∈ bufV, isInt v = true
  snd : ∀ v ∈ sndV, IsSRow tl v
  rcv : ∀ v ∈ rcvV, IsRRow tl v
  l1 : bufV.length ≤ len
  l2 : sndV.length ≤ len
  l3 : rcvV.length ≤ len
  pot : PotOk x y

abbrev chLed (w : World) (oD : Obj) (C dC b sq r D k gv tk pot : Addr) (t1 t2 t3 t4 t5 tr ta tb : Tok) (n1 n2 n3 n4 n5 n6 : Nat) (room : Int) (bufV sndV rcvV : List Value) (x y : Int) (tl : List (Addr × Obj)) : List (Addr × Obj) :=
  (C, instObj 433 dC) :: (dC, chanD w t1 t2 t3 t4 t5 room tr b sq r) :: (b, listOf bufV.toArray n1) :: (sq, listOf sndV.toArray n2) :: (r, listOf rcvV.toArray n3) :: (D, oD) :: (k, listOf bufV.toArray n4) :: (gv, listOf sndV.toArray n5) :: (tk, listOf rcvV.toArray n6) :: (pot, potObj x y ta tb) :: tl

def ChanSt (w : World) (g h : Heap) (C dC D pot : Addr) (room : Int) (len : Nat) : Prop :=
  ∃ oD b sq r k gv tk t1 t2 t3 t4 t5 tr ta tb n1 n2 n3 n4 n5 n6 bufV sndV rcvV x y tl,
    NewsG g h (chLed w oD C dC b sq r D k gv tk pot t1 t2 t3 t4 t5 tr ta tb n1 n2 n3 n4 n5 n6 room bufV sndV rcvV x y tl) ∧ StOk w oD C dC b sq r D k gv tk pot bufV sndV rcvV tl x y len

def DeedPost (w : World) (C dC D pot : Addr) (room : Int) (len : Nat) (g : Heap) (v : Value) (h : Heap) : Prop := v = .bool true ∧ ChanSt w g h C dC D pot room len


theorem mkSt {w : World} {g h : Heap} {L : Addr} {news : List (Addr × Obj)} {oD : Obj} {C dC b sq r D k gv tk pot : Addr} {t1 t2 t3 t4 t5 tr ta tb : Tok} {n1 n2 n3 n4 n5 n6 : Nat} {room : Int} {bufV sndV rcvV : List Value} {x y : Int} {tl : List (Addr × Obj)} {len : Nat} {v : Value}
    (N : News g L h news) (hv : v = .bool true) (hC : (C, instObj 433 dC) ∈ news) (hdC : (dC, chanD w t1 t2 t3 t4 t5 room tr b sq r) ∈ news) (hD : (D, oD) ∈ news)
    (book : Obj.IsDictOf (PySem.strKind PR w) oD [(Str.ofString "kept", Value.ref k), (Str.ofString "givers", Value.ref gv), (Str.ofString "takers", Value.ref tk)])
    (hb : (b, listOf bufV.toArray n1) ∈ news) (hsq : (sq, listOf sndV.toArray n2) ∈ news) (hr : (r, listOf rcvV.toArray n3) ∈ news)
    (hk : (k, listOf bufV.toArray n4) ∈ news) (hgv : (gv, listOf sndV.toArray n5) ∈ news) (htk : (tk, listOf rcvV.toArray n6) ∈ news) (hp : (pot, potObj x y ta tb) ∈ news) (hs : ∀ p ∈ tl, p ∈ news)
    (aps : Aps [C, dC, b, sq, r, D, k, gv, tk, pot]) (tup : TupLed tl) (bufI : ∀ v ∈ bufV, isInt v = true) (snd : ∀ v ∈ sndV, IsSRow tl v) (rcv : ∀ v ∈ rcvV, IsRRow tl v)
    (l1 : bufV.length ≤ len) (l2 : sndV.length ≤ len) (l3 : rcvV.length ≤ len) (ok : PotOk x y) : DeedPost w C dC D pot room len g v h := by
  refine ⟨hv, oD, b, sq, r, k, gv, tk, t1, t2, t3, t4, t5, tr, ta, tb, n1, n2, n3, n4, n5, n6, bufV, sndV, rcvV, x, y, tl, fun p hp' => ?_, ⟨book, aps, tup, bufI, snd, rcv, l1, l2, l3, ok⟩⟩
  have hm : p ∈ news := by
    simp only [chLed, List.mem_cons] at hp'
    rcases hp' with rfl | rfl | rfl | rfl | rfl | rfl | rfl | rfl | rfl | rfl | q <;> first | assumption | exact hs p q
  exact ⟨(N p hm).1, (N p hm).2.2⟩

theorem mkStS {w : World} {g h : Heap} {L : Addr} {news : List (Addr × Obj)} {oD : Obj} {C dC b sq r D k gv tk pot row : Addr} {rn : Nat} {ih ix iu : Int} {w1 w2 w3 : Tok} {sv : Value} {t1 t2 t3 t4 t5 tr ta tb : Tok} {n1 n2 n3 n4 n5 n6 : Nat} {room : Int} {bufV sndV rcvV : List Value} {x y : Int} {tl : List (Addr × Obj)} {len : Nat} {v : Value}
    (N : News g L h news) (hv : v = .bool true) (hC : (C, instObj 433 dC) ∈ news) (hdC : (dC, chanD w t1 t2 t3 t4 t5 room tr b sq r) ∈ news) (hD : (D, oD) ∈ news)
    (book : Obj.IsDictOf (PySem.strKind PR w) oD [(Str.ofString "kept", Value.ref k), (Str.ofString "givers", Value.ref gv), (Str.ofString "takers", Value.ref tk)])
    (hb : (b, listOf bufV.toArray n1) ∈ news) (hsq : (sq, listOf (sndV ++ [Value.ref row]).toArray n2) ∈ news) (hr : (r, listOf rcvV.toArray n3) ∈ news)
    (hk : (k, listOf bufV.toArray n4) ∈ news) (hgv : (gv, listOf (sndV ++ [Value.ref row]).toArray n5) ∈ news) (htk : (tk, listOf rcvV.toArray n6) ∈ news) (hp : (pot, potObj x y ta tb) ∈ news) (hrow : (row, tupOf #[.int ih w1, .int ix w2, .int iu w3, sv] rn) ∈ news) (hs : ∀ p ∈ tl, p ∈ news)
    (aps : Aps [C, dC, b, sq, r, D, k, gv, tk, pot]) (tup : TupLed tl) (hsel : isSel sv = true) (bufI : ∀ v ∈ bufV, isInt v = true) (snd : ∀ v ∈ sndV, IsSRow tl v) (rcv : ∀ v ∈ rcvV, IsRRow tl v)
    (l1 : bufV.length ≤ len) (l2 : sndV.length ≤ len) (l3 : rcvV.length ≤ len + 1) (ok : PotOk x y) : DeedPost w C dC D pot room (len + 1) g v h :=
  mkSt N hv hC hdC hD book hb hsq hr hk hgv htk hp (allc ⟨hrow, hs⟩) aps tup.cons bufI (all_snoc (snd_mono snd) ⟨row, ih, ix, iu, sv, rn, w1, w2, w3, rfl, .head _, hsel⟩) (rcv_mono rcv) (Nat.le_succ_of_le l1) (by simpa using l2) l3 ok
theorem mkStQ {w : World} {g h : Heap} {L : Addr} {news : List (Addr × Obj)} {oD : Obj} {C dC b sq r D k gv tk pot row : Addr} {rn : Nat} {ih iu : Int} {w1 w3 : Tok} {sv : Value} {t1 t2 t3 t4 t5 tr ta tb : Tok} {n1 n2 n3 n4 n5 n6 : Nat} {room : Int} {bufV sndV rcvV : List Value} {x y : Int} {tl : List (Addr × Obj)} {len : Nat} {v : Value}
    (N : News g L h news) (hv : v = .bool true) (hC : (C, instObj 433 dC) ∈ news) (hdC : (dC, chanD w t1 t2 t3 t4 t5 room tr b sq r) ∈ news) (hD : (D, oD) ∈ news)
    (book : Obj.IsDictOf (PySem.strKind PR w) oD [(Str.ofString "kept", Value.ref k), (Str.ofString "givers", Value.ref gv), (Str.ofString "takers", Value.ref tk)])
    (hb : (b, listOf bufV.toArray n1) ∈ news) (hsq : (sq, listOf sndV.toArray n2) ∈ news) (hr : (r, listOf (rcvV ++ [Value.ref row]).toArray n3) ∈ news)
    (hk : (k, listOf bufV.toArray n4) ∈ news) (hgv : (gv, listOf sndV.toArray n5) ∈ news) (htk : (tk, listOf (rcvV ++ [Value.ref row]).toArray n6) ∈ news) (hp : (pot, potObj x y ta tb) ∈ news) (hrow : (row, tupOf #[.int ih w1, .none, .int iu w3, sv] rn) ∈ news) (hs : ∀ p ∈ tl, p ∈ news)
    (aps : Aps [C, dC, b, sq, r, D, k, gv, tk, pot]) (tup : TupLed tl) (hsel : isSel sv = true) (bufI : ∀ v ∈ bufV, isInt v = true) (snd : ∀ v ∈ sndV, IsSRow tl v) (rcv : ∀ v ∈ rcvV, IsRRow tl v)
    (l1 : bufV.length ≤ len) (l2 : sndV.length ≤ len + 1) (l3 : rcvV.length ≤ len) (ok : PotOk x y) : DeedPost w C dC D pot room (len + 1) g v h :=
  mkSt N hv hC hdC hD book hb hsq hr hk hgv htk hp (allc ⟨hrow, hs⟩) aps tup.cons bufI (snd_mono snd) (all_snoc (rcv_mono rcv) ⟨row, ih, iu, sv, rn, w1, w3, rfl, .head _, hsel⟩) (Nat.le_succ_of_le l1) l2 (by simpa using l3) ok

theorem testAnd {w : World} {A : Around} {E : Value → Shared → Prop} {h₀ h : Heap} {L b c : Addr} {m : Str → Option Value} {cn : Str} {cs : Scope} {ccd : Value} {cl : List (Str × Addr)} {gs : Array GenState} {dr : Drawn} {tk : Nat} {os : OsState} {news : List (Addr × Obj)} {x y : Str} {r n : Int} {t : Tok} {o : Obj} {sv : Value} {xp yp cp dp p1 p2 pos : Pos} {ck dk : Nat} {whole : Sem Value} {Q : Bool → Shared → Prop}
    (F : Fr h₀ L h m) (N : News h₀ L h news) (hk : cs.kind = .function) (hx : (envX cn cs L b ccd cl).kindOf x = some .local) (hdx : (x == ("__debug__" : Str)) = false) (hv : m x = some (.int r t)) (hy : (envX cn cs L b ccd cl).kindOf y = some .cell) (hdy : (y == ("__debug__" : Str)) = false) (hc : cl.lookup y = some c) (hm : (c, o) ∈ news) (ho : o.data = .cell (some sv)) (hs : isSel sv = true)
    (q0 : Q false ⟨h, gs, dr, tk + 1, os⟩) (q1 : ∀ i u, sv = .int i u → Q true ⟨h, gs, dr, tk + 1, os⟩) :
    wpAny (model PR w) A (isTrue (.BoolOp .And [.Compare (.Name x xp) [.Eq] [.Constant (.int n) ck cp] p1, .Compare (.Name y yp) [.IsNot] [.Constant .none dk dp] p2] pos) (envX cn cs L b ccd cl) whole) Q E ⟨h, gs, dr, tk, os⟩ := by
  refine isTrue_and (wpAny_isTrue_Compare1 (nameX_L F hv (const_int (PyProof.Rows.eq_int (wpAny_truthy_bool ?_))) hk hx hdx) (by with_unfolding_all rfl))
  cases r == n with
  | false => exact itF q0
  | true =>
    refine itT (isTrue_and (wpAny_isTrue_Compare1 (nameX_C N hc hm ho (Constant_none (isnot_sel hs (fun e => wpAny_truthy_bool (itF q0)) (fun i u e => wpAny_truthy_bool (itT (isTrue_and_nil (q1 i u e)))))) hk hy hdy) (by with_unfolding_all rfl)))
example : True := by
  (k_with "call ref!" => (k_here; (with_reducible show wpAny _ _ (call (Value.ref 730) _) _ _ _); k_dflt (refine' call_oneV ?k1_z ?k2_z ?k3_z ?k4_z ?k5_z ?U_z ?hl_z ?hne_z ?hf_z ?hk_z ?hr_z ?hu_z ?p1_z ?p4_z ?p5_z ?p6_z ?_; (case hf_z => exact rfl); (case hk_z => exact rfl); (case k1_z => k_asm); (case k2_z => k_asm); (case k3_z => k_asm); (case k4_z => k_asm); (case k5_z => k_asm); (case hl_z => k_mem); (case hne_z => k_ne); (case U_z => k_updF); (case hr_z => k_extra "MY room"); (case hu_z => k_extra "MY room"); (case p1_z => k_asm); (case p4_z => exact Nat.le_of_ble_eq_true rfl); (case p5_z => exact Nat.le_of_ble_eq_true rfl); (case p6_z => exact rfl); k_whole); intro v' h' tk' a' ta' b' tb' sel' F' N' ok'; (try dsimp only at N'); (try k_sweep)))
  (k_with "compareOp IsNot!" => (k_here; (with_reducible show wpAny _ _ (compareOp CmpOp.IsNot _ Value.none) _ _ _); k_dflt (refine' isnot_sel ?a_z ?_ ?_; (case a_z => with_reducible assumption); (focus (intro e'; subst e')); rotate_left; (focus (intro i' t' e'; subst e')); rotate_left)))
  (k_with "call ref!" => (k_here; (with_reducible show wpAny _ _ (call (Value.ref 737) _) _ _ _); (rename (List.any _ _ = false) => hz9); (rename (_ = (4 : Int)) => he9); rw [he9] at hz9; exact absurd hz9 (by decide)))
  (k_with "MY buf" => first | with_reducible assumption | exact List.forall_mem_nil _ | exact all_tail (by with_reducible assumption) | (refine all_snoc ?_ rfl; first | with_reducible assumption | exact List.forall_mem_nil _ | exact all_tail (by with_reducible assumption)))
  (k_with "MY rows" => first | with_reducible assumption | exact List.forall_mem_nil _ | exact all_tail (by with_reducible assumption) | exact all_filter (by with_reducible assumption))
  (k_with "MY le" => first | (refine Nat.le_succ_of_le ?_; assumption) | (refine le_up2 ?_; assumption) | exact Nat.zero_le _ | (refine snoc_le ?_; assumption) | (refine snoc_le2 ?_; assumption) | omega | ((simp only [List.length_append, List.length_cons, List.length_nil] at *); omega) | exact Nat.le_trans (List.length_filter_le _ _) (by omega))
  (k_with "MY aps" => first | with_reducible assumption | (repeat' (first | exact True.intro | exact List.forall_mem_nil _ | refine And.intro ?_ ?_ | refine allc ?_ | exact ⟨by k_ne⟩)))
  (k_with "compareOp Eq ref ref!" => (k_here; (with_reducible show wpAny _ _ (compareOp CmpOp.Eq (Value.ref _) (Value.ref _)) _ _ _); k_dflt (first | (refine' eq_nil_cons ?N_z ?a_z ?b_z ?d_z ?s_z ?u_z ?_; (case N_z => k_asm); (case a_z => k_mem); (case b_z => k_mem); (case d_z => k_asm); (case s_z => k_extra "MY sub"); (case u_z => ke_room)) | (refine' eq_nil_nil ?N_z ?a_z ?b_z ?u_z ?_; (case N_z => k_asm); (case a_z => k_mem); (case b_z => k_mem); (case u_z => ke_room)) | (refine' eq_same ?ra_z ?rb_z ?sh_z ?u_z ?_; (case ra_z => ked_read); (case rb_z => ked_read); (case sh_z => (simp [SeqAt.shaped, PyData.canLay0, PyData.canLayAll0, PyData.depth, PyData.depthAll, selP_lay, selP_depth, ok_done, ok_woken, ok_received, ok_sent, ok_blocked]; done)); (case u_z => ke_room)) | fail "MY eq")))
  (k_with "MY st" => (refine' mkSt ?N_z ?v_z ?hC_z ?hdC_z ?hD_z ?book_z ?hb_z ?hsq_z ?hr_z ?hk_z ?hgv_z ?htk_z ?hp_z ?hs_z ?aps_z ?tup_z ?bufI_z ?snd_z ?rcv_z ?l1_z ?l2_z ?l3_z ?ok_z; (case N_z => with_reducible assumption); (case v_z => rfl); (case hC_z => k_mem); (case hdC_z => k_mem); (case hD_z => k_mem); (case book_z => with_reducible assumption); (case hb_z => k_mem); (case hsq_z => k_mem); (case hr_z => k_mem); (case hk_z => k_mem); (case hgv_z => k_mem); (case htk_z => k_mem); (case hp_z => k_mem); (case tup_z => with_reducible assumption); (case snd_z => k_extra "MY rows"); (case rcv_z => k_extra "MY rows"); (case hs_z => k_extra "MY sub"); (case aps_z => k_extra "MY aps"); (case bufI_z => k_extra "MY buf"); (case l1_z => k_extra "MY le"); (case l2_z => k_extra "MY le"); (case l3_z => k_extra "MY le"); (case ok_z => with_reducible assumption)))
  (k_with "MY stS" => (refine' mkStS ?N_z ?v_z ?hC_z ?hdC_z ?hD_z ?book_z ?hb_z ?hsq_z ?hr_z ?hk_z ?hgv_z ?htk_z ?hp_z ?hrow_z ?hs_z ?aps_z ?tup_z ?sel_z ?bufI_z ?snd_z ?rcv_z ?l1_z ?l2_z ?l3_z ?ok_z; (case N_z => with_reducible assumption); (case v_z => rfl); (case hC_z => k_mem); (case hdC_z => k_mem); (case hD_z => k_mem); (case book_z => with_reducible assumption); (case hb_z => k_mem); (case hsq_z => k_mem); (case hr_z => k_mem); (case hk_z => k_mem); (case hgv_z => k_mem); (case htk_z => k_mem); (case hp_z => k_mem); (case tup_z => with_reducible assumption); (case hrow_z => k_mem); (case sel_z => with_reducible assumption); (case snd_z => k_extra "MY rows"); (case rcv_z => k_extra "MY rows"); (case hs_z => k_extra "MY sub"); (case aps_z => k_extra "MY aps"); (case bufI_z => k_extra "MY buf"); (case l1_z => k_extra "MY le"); (case l2_z => k_extra "MY le"); (case l3_z => k_extra "MY le"); (case ok_z => with_reducible assumption)))
  (k_with "MY stQ" => (refine' mkStQ ?N_z ?v_z ?hC_z ?hdC_z ?hD_z ?book_z ?hb_z ?hsq_z ?hr_z ?hk_z ?hgv_z ?htk_z ?hp_z ?hrow_z ?hs_z ?aps_z ?tup_z ?sel_z ?bufI_z ?snd_z ?rcv_z ?l1_z ?l2_z ?l3_z ?ok_z; (case N_z => with_reducible assumption); (case v_z => rfl); (case hC_z => k_mem); (case hdC_z => k_mem); (case hD_z => k_mem); (case book_z => with_reducible assumption); (case hb_z => k_mem); (case hsq_z => k_mem); (case hr_z => k_mem); (case hk_z => k_mem); (case hgv_z => k_mem); (case htk_z => k_mem); (case hp_z => k_mem); (case tup_z => with_reducible assumption); (case hrow_z => k_mem); (case sel_z => with_reducible assumption); (case snd_z => k_extra "MY rows"); (case rcv_z => k_extra "MY rows"); (case hs_z => k_extra "MY sub"); (case aps_z => k_extra "MY aps"); (case bufI_z => k_extra "MY buf"); (case l1_z => k_extra "MY le"); (case l2_z => k_extra "MY le"); (case l3_z => k_extra "MY le"); (case ok_z => with_reducible assumption)))
  (k_with "MY ready" => (k_here; (with_reducible show wpAny _ _ (call (Value.ref 737) _) _ _ _); k_dflt (first | (refine' call_ready_sendC ?k1_z ?k2_z ?k3_z ?k4_z ?k5_z ?hb_z ?h1_z ?h2_z ?h3_z ?h4_z ?hs_z ?hf_z ?hk_z ?hr_z ?hu_z ?r1_z ?r2_z ?r3_z ?l1_z ?_ ?_ ?_; (case hf_z => exact rfl); (case hk_z => exact rfl); (case k1_z => k_asm); (case k2_z => k_asm); (case k3_z => k_asm); (case k4_z => k_asm); (case k5_z => k_asm); (case h1_z => k_mem); (case hb_z => k_asm); (case h2_z => k_mem); (case h3_z => k_mem); (case h4_z => k_mem); (case r1_z => k_asm); (case r2_z => k_asm); (case r3_z => k_asm); (case hs_z => k_extra "MY sub"); (case hr_z => k_extra "MY room"); (case hu_z => k_extra "MY room"); (case l1_z => k_extra "MY len"); (focus (intro v' vs' h' tk' e' F' N'; subst e'; (obtain ⟨ra', rh', ru', rs', rn', rt1', rt3', rq', rm', rsel'⟩ := openR (v := v') (by with_reducible assumption)); subst rq'; (try k_sweep))); rotate_left; (focus (intro h' tk' e' q' F' N'; subst e'; (try k_sweep))); rotate_left; (focus (intro h' tk' e' q' F' N'; subst e'; (try k_sweep))); rotate_left) | (refine' call_ready_recvC ?k1_z ?k2_z ?k3_z ?k4_z ?k5_z ?hb_z ?h1_z ?h2_z ?h3_z ?h4_z ?hs_z ?hf_z ?hk_z ?hr_z ?hu_z ?r1_z ?r2_z ?r3_z ?l1_z ?_ ?_ ?_ ?_; (case hf_z => exact rfl); (case hk_z => exact rfl); (case k1_z => k_asm); (case k2_z => k_asm); (case k3_z => k_asm); (case k4_z => k_asm); (case k5_z => k_asm); (case h1_z => k_mem); (case hb_z => k_asm); (case h2_z => k_mem); (case h3_z => k_mem); (case h4_z => k_mem); (case r1_z => k_asm); (case r2_z => k_asm); (case r3_z => k_asm); (case hs_z => k_extra "MY sub"); (case hr_z => k_extra "MY room"); (case hu_z => k_extra "MY room"); (case l1_z => k_extra "MY len"); (focus (intro v' vs' u' us' h' tk' e' e2' F' N'; subst e'; subst e2'; (obtain ⟨bi', bt', bq'⟩ := openB (v := v') (by with_reducible assumption)); subst bq'; (obtain ⟨sa', sh', sx', su', ss', sn', st1', st2', st3', sq', sm', ssel'⟩ := openS (v := u') (by with_reducible assumption)); subst sq'; (try k_sweep))); rotate_left; (focus (intro v' vs' h' tk' e' e2' F' N'; subst e'; subst e2'; (obtain ⟨bi', bt', bq'⟩ := openB (v := v') (by with_reducible assumption)); subst bq'; (try k_sweep))); rotate_left; (focus (intro u' us' h' tk' e' e2' F' N'; subst e'; subst e2'; (obtain ⟨sa', sh', sx', su', ss', sn', st1', st2', st3', sq', sm', ssel'⟩ := openS (v := u') (by with_reducible assumption)); subst sq'; (try k_sweep))); rotate_left; (focus (intro h' tk' e' e2' F' N'; subst e'; subst e2'; (try k_sweep))); rotate_left))))
  (k_with "call ref!" => (k_here; (with_reducible show wpAny _ _ (call (Value.ref 737) _) _ _ _); k_extra "MY ready"))
  (k_with "isTrue BoolOp!" => (k_here; k_dflt (refine' testAnd ?F_z ?N_z ?k_z ?x_z ?dx_z ?v_z ?y_z ?dy_z ?c_z ?m_z ?o_z ?s_z ?_ ?_; (case F_z => k_asm); (case N_z => k_asm); (case k_z => rfl); (case x_z => rfl); (case dx_z => decide); (case v_z => rfl); (case y_z => rfl); (case dy_z => decide); (case c_z => rfl); (case m_z => k_mem); (case o_z => k_asm); (case s_z => with_reducible assumption)); rotate_left; (focus (intro i' t' e'; subst e')); rotate_left))
  trivial

end
section
example : True := by
  w_top off
  trivial
set_option rowWalk.seconds 0 in
set_option maxRecDepth 100000 in
set_option maxHeartbeats 8000000 in
theorem deed_spec {w : World} {mean : ExcName → Option Value} {mg mb : Str → Option Value} {dp un : Nat} {gd : Option (List Code)} {base g : Heap} {fs : List Env} {s : Shared}
    {oD : Obj} {C dC b sq r D k gv tk pot : Addr} {t1 t2 t3 t4 t5 tr ta tb tt : Tok} {n1 n2 n3 n4 n5 n6 : Nat} {room turn : Int} {bufV sndV rcvV : List Value} {x y : Int} {tl : List (Addr × Obj)} {len : Nat}
    (G : Gd w mean mg mb ⟨none, dp, some fs, gd, un⟩ base fs g) (hx : Ext g s.heap)
    (hroom : dp ≤ 900) (hun : un ≤ 8500) (hlen : len ≤ 50) (hturn : 0 ≤ turn) (hturn2 : turn ≤ 10)
    (ok : StOk w oD C dC b sq r D k gv tk pot bufV sndV rcvV tl x y len)
    (N : NewsG g s.heap (chLed w oD C dC b sq r D k gv tk pot t1 t2 t3 t4 t5 tr ta tb n1 n2 n3 n4 n5 n6 room bufV sndV rcvV x y tl)) :
    codeAny (model PR w) ⟨none, dp, some fs, gd, un⟩ (.call (.ref 742) ⟨[.ref pot, .ref C, .ref D, .int turn tt], []⟩) (Done s g (DeedPost w C dC D pot room (len + 1) g)) s := by
  refine unbx ?_
  simp (discharger := (k_dflt (
      refine enterGC (binds := [(Str.ofString "pot", .ref pot), (Str.ofString "channel", .ref C), (Str.ofString "book", .ref D), (Str.ofString "turn", .int turn tt)]) G hx N (by k_is) (by k_is) (by exact Nat.lt_of_le_of_lt hroom (by decide)) (by exact BindsTo.of_eq rfl) (by exact rfl) (by decide +kernel) ?_ (by exact rfl) (by exact rfl) (by exact rfl)
      intro L' h' tk' cells' F' N' Y' l1
      have B' := G.B
      have X' := G.X
      have T' := G.T
      have offc : ∀ p ∈ tl, p.1 ≠ L' + 1 := fun p hp e => by
        have q := l1 p (by repeat (first | exact hp | refine List.Mem.tail _ ?_))
        rw [e] at q
        exact absurd q (Nat.not_lt.mpr (Nat.le_succ _))
      k_lt l1
      k_cells Y'
      obtain ⟨book, aps, tup, bufI, snd, rcv, ln1, ln2, ln3, ok'⟩ := ok
      have rdB : Rd tl bufV := rd_of fun v hv => int_dat (bufI v hv)
      have rdS : Rd tl sndV := rd_of fun v hv => (snd v hv).dat
      have rdR : Rd tl rcvV := rd_of fun v hv => (rcv v hv).dat
      have rowS : ∀ v ∈ sndV, IsRow tl v := fun v hv => (snd v hv).row
      have rowR : ∀ v ∈ rcvV, IsRow tl v := fun v hv => (rcv v hv).row
      unfold IsBook at book
      simp only [List.cons_append, List.nil_append, chLed] at N'
      try dsimp only
      (try k_fold)
      clear N hx
      k_steps
      all_goals (try dsimp only)
      all_goals (rename Fr _ _ _ _ => F9; refine Done.of F9 ?_; first | k_extra "MY stS" | k_extra "MY stQ" | k_extra "MY st" | fail "MY end")))) only [↓bx]

end
section
example : True := by
  w_top off
  k_with_none
  (k_with "ite!" => with_reducible (first | refine itT ?_ | refine itF ?_ | refine itNT ?_ | refine itNF ?_))
  (k_with "subscriptTail Name Constant ref str!" => (k_here; k_dflt (refine' itemN (knd := PySem.strKind _ _) ?N_z ?m_z ?d_z (strKind_is _ _ _ _) ?r_z ?_ ?s_z ?g_z; (case N_z => k_asm); (case m_z => k_mem); (case d_z => k_asm); (case r_z => rfl); (case s_z => with_unfolding_all rfl); (case g_z => (intro _; with_unfolding_all rfl)))))
  (k_with "subscriptTail Name Constant ref int!" => (k_here; first | k_extra "subscriptTail!" | k_dflt (refine' item_tupleT ?t_z ?a_z ?b_z ?c_z ?d_z ?_; (case t_z => exact News.isTup (by k_asm) (by k_mem)); (case a_z => decide); (case b_z => decide); (case c_z => rfl); (case d_z => rfl); k_whole)))
  (k_with "eval Name!" => (k_here; k_dflt (refine' nameX_L ?F_z ?v_z ?_ ?a_z ?b_z; (case F_z => k_asm); (case a_z => rfl); (case b_z => rfl); (case v_z => rfl); k_whole)))
  (k_with "exec Assign!" => ((with_reducible show wpAny _ _ (exec (Stmt.Assign [Expr.Name _ _] _ _) _) _ _ _); with_reducible refine wpAny_Assign_Name ?_))
  (k_with "MY rd" => first | exact RdArgs.nil | (refine' RdArgs.name ?x_z ?d_z ?v_z ?r_z; (case x_z => rfl); (case d_z => decide); (case v_z => rfl); (case r_z => k_extra "MY rd")) | (refine' RdArgs.str ?r_z; (case r_z => k_extra "MY rd")) | (refine' RdArgs.int ?r_z; (case r_z => k_extra "MY rd")) | (refine' RdArgs.bool ?r_z; (case r_z => k_extra "MY rd")) | (refine' RdArgs.non ?r_z; (case r_z => k_extra "MY rd")))
  (k_with "spliced!" => (k_here; (first | with_reducible show wpAny _ _ (spliced (backTo _ (starEach (Expr.Name _ _ :: _) _))) _ _ _ | with_reducible show wpAny _ _ (spliced (backTo _ (starEach (Expr.Constant _ _ _ :: _) _))) _ _ _); k_dflt (refine' args_rd ?F_z ?k_z ?r_z ?_; (case F_z => k_asm); (case k_z => rfl); (case r_z => k_extra "MY rd"); k_whole); (try dsimp only [List.cons_append, List.nil_append])))
  (k_with "eval Constant str!" => with_reducible refine const_str ?_)
  (k_with "eval Constant int!" => with_reducible refine const_int ?_)
  (k_with "storeName!" => (k_here; k_dflt (refine' storeN ?F_z ?N_z ?_ ?a_z ?b_z; (case F_z => k_asm); (case N_z => k_asm); (case a_z => rfl); (case b_z => rfl); k_whole; intro hq' Fq' Nq'; (try k_sweep))))
  (k_with "unpackItems ref!" => (k_here; k_dflt (refine' unpackN ?k1_z ?k2_z ?k3_z ?k4_z ?k5_z ?_; (case k1_z => k_asm); (case k2_z => k_asm); (case k3_z => kun_tup); (case k4_z => exact rfl); (case k5_z => exact rfl); k_whole); intro hq' Fq' Nq'; (try k_sweep)))
  (k_with "newTuple cons!" => (k_here; (with_reducible show wpAny _ _ (newTuple [_, _]) _ _ _); k_dflt (first | (refine' tupTo2 ?F_z ?N_z ?k_z ?x_z ?y_z ?hh_z ?_; (case F_z => k_asm); (case N_z => k_asm); (case k_z => rfl); (case x_z => rfl); (case y_z => rfl); (case hh_z => exact rfl); k_whole) | (refine' tupTo2s ?F_z ?N_z ?t_z ?k_z ?x_z ?y_z ?hh_z ?_; (case F_z => k_asm); (case N_z => k_asm); (case t_z => with_unfolding_all rfl); (case k_z => rfl); (case x_z => rfl); (case y_z => rfl); (case hh_z => exact rfl); k_whole)); intro hq' Fq' Nq'; (try k_sweep)))
  (k_with "eval Subscript!" => (k_here; (with_reducible show wpAny _ _ (eval (Expr.Subscript (Expr.Name _ _) (Expr.Constant (Const.str _) _ _) _) _) _ _ _); k_dflt (refine' subName ?F_z ?N_z ?k_z ?x_z ?b_z ?v_z ?p_z ?o_z ?l_z ?_; (case F_z => k_asm); (case N_z => k_asm); (case k_z => rfl); (case x_z => rfl); (case b_z => decide); (case v_z => rfl); (case p_z => k_mem); (case o_z => k_asm); (case l_z => rfl); k_whole)))
  (k_with "execs cons!" => (k_here; (first | (with_reducible refine execs_gen ?_; intro tq') | with_reducible refine wpAny_execs_cons ?_); (try k_fold)))
  (k_with "k_room!" => first | (refine' rm_k ?h_z ?e_z; (case h_z => with_reducible assumption); (case e_z => rfl)) | ((try simp only [depth_under_make, depth_under_kw, depth_in1, depth_deeper, depth_caller]); show _ < 1000; (try dsimp only); omega))
  (k_with "ke_room!" => first | (refine' rm_u ?h_z ?e_z; (case h_z => with_reducible assumption); (case e_z => rfl)) | ((simp only [units_under_make, units_in1, units_deeper, Around.mark_units, units_caller]); show _ < 9900; (try dsimp only); omega))
  (k_with "MY room" => first | (refine' rm_le ?h_z ?e_z; (case h_z => with_reducible assumption); (case e_z => rfl)) | ((try simp only [depth_under_make, depth_under_kw, depth_in1, depth_deeper, depth_caller, units_under_make, units_in1, units_deeper, Around.mark_units, units_caller]); (try dsimp only); omega))
  (k_with "call ref!" => (k_here; (with_reducible show wpAny _ _ (call (Value.ref 723) _) _ _ _); k_dflt (refine' call_scoop ?k1_z ?k2_z ?k3_z ?k4_z ?k5_z ?U_z ?hf_z ?hk_z ?hr_z ?hu_z ?p1_z ?p4_z ?p5_z ?_; (case hf_z => exact rfl); (case hk_z => exact rfl); (case k1_z => k_asm); (case k2_z => k_asm); (case k3_z => k_asm); (case k4_z => k_asm); (case k5_z => k_asm); (case U_z => k_updF); (case hr_z => k_extra "MY room"); (case hu_z => k_extra "MY room"); (case p1_z => k_asm); (case p4_z => omega); (case p5_z => omega); k_whole); intro h' tk' r' tr' a' ta' b' tb' F' N' hr0' hr1' ok'; (try dsimp only at N'); (try k_sweep)))
  (k_with "call ref!" => (k_here; (with_reducible show wpAny _ _ (call (Value.ref 730) _) _ _ _); k_dflt (refine' call_oneSel ?k1_z ?k2_z ?k3_z ?k4_z ?k5_z ?U_z ?hl_z ?hne_z ?hf_z ?hk_z ?hr_z ?hu_z ?p1_z ?p4_z ?p5_z ?p6_z ?_ ?_; (case hf_z => exact rfl); (case hk_z => exact rfl); (case k1_z => k_asm); (case k2_z => k_asm); (case k3_z => k_asm); (case k4_z => k_asm); (case k5_z => k_asm); (case hl_z => k_mem); (case hne_z => k_ne); (case U_z => k_updF); (case hr_z => k_extra "MY room"); (case hu_z => k_extra "MY room"); (case p1_z => k_asm); (case p4_z => exact Nat.le_of_ble_eq_true rfl); (case p5_z => exact Nat.le_of_ble_eq_true rfl); (case p6_z => exact rfl); k_whole); all_goals (intros; rename News _ _ _ _ => N'; (try dsimp only at N'); (try k_sweep))))
  (k_with "MY sub" => first | exact fun _ h => h | (refine sub_cons ?_; k_extra "MY sub"))
  (k_with "MY len" => first | with_reducible assumption | (refine' len_two ?h_z ?g_z ?e_z; (case h_z => assumption); (case g_z => with_reducible assumption); (case e_z => rfl)) | (refine' len_three ?h_z ?g_z ?e_z; (case h_z => assumption); (case g_z => with_reducible assumption); (case e_z => rfl)) | ((try simp only [List.length_append, List.length_cons, List.length_nil] at *); omega))
  (k_with "compareOp NotEq ref ref!" => (k_here; (with_reducible show wpAny _ _ (compareOp CmpOp.NotEq (Value.ref _) (Value.ref _)) _ _ _); k_dflt (first | (refine' ne_nil_cons ?N_z ?a_z ?b_z ?d_z ?s_z ?u_z ?_; (case N_z => k_asm); (case a_z => k_mem); (case b_z => k_mem); (case d_z => k_asm); (case s_z => k_extra "MY sub"); (case u_z => ke_room)) | (refine' ne_nil_nil ?N_z ?a_z ?b_z ?u_z ?_; (case N_z => k_asm); (case a_z => k_mem); (case b_z => k_mem); (case u_z => ke_room)))))
  (k_with "compareOp Eq ref ref!" => (k_here; (with_reducible show wpAny _ _ (compareOp CmpOp.Eq (Value.ref _) (Value.ref _)) _ _ _); k_dflt (first | (refine' eq_nil_cons ?N_z ?a_z ?b_z ?d_z ?s_z ?u_z ?_; (case N_z => k_asm); (case a_z => k_mem); (case b_z => k_mem); (case d_z => k_asm); (case s_z => k_extra "MY sub"); (case u_z => ke_room)) | (refine' eq_nil_nil ?N_z ?a_z ?b_z ?u_z ?_; (case N_z => k_asm); (case a_z => k_mem); (case b_z => k_mem); (case u_z => ke_room)))))
  (k_with "call builtin:list.pop!" => (k_here; k_dflt ((with_reducible show wpAny _ _ (call (Value.builtin _) [Value.ref _, Value.int _ _]) _ _ _); refine' my_pop0 ?F_z ?N_z ?U_z ?z_z ?_; (case F_z => k_asm); (case N_z => k_asm); (case U_z => k_updF); (case z_z => k_extra "MY len")); intro h' F' N'; (try dsimp only at N'); (try k_sweep)))
  (k_with "call builtin:list.append!" => (k_here; k_dflt ((with_reducible show wpAny _ _ (call (Value.builtin _) [Value.ref _, _]) _ _ _); refine' my_append ?F_z ?N_z ?U_z ?z_z ?_; (case F_z => k_asm); (case N_z => k_asm); (case U_z => k_updF); (case z_z => k_extra "MY len")); intro h' F' N'; (try dsimp only at N'); (try simp only [List.nil_append] at N'); (try k_sweep)))
  (k_with "call builtin:len!" => (k_here; (with_reducible show wpAny _ _ (call (Value.builtin "len") [Value.ref _]) _ _ _); k_dflt (refine' my_len ?N_z ?m_z ?z_z ?_; (case N_z => k_asm); (case m_z => k_mem); (case z_z => k_extra "MY len"))))
  (k_with "call ref!" => (k_here; (with_reducible show wpAny _ _ (call (Value.ref 737) _) _ _ _); k_dflt (first | (refine' call_ready_send ?k1_z ?k2_z ?k3_z ?k4_z ?k5_z ?hb_z ?h1_z ?h2_z ?h3_z ?h4_z ?hs_z ?hf_z ?hk_z ?hr_z ?hu_z ?r1_z ?r2_z ?r3_z ?l1_z ?_; (case hf_z => exact rfl); (case hk_z => exact rfl); (case k1_z => k_asm); (case k2_z => k_asm); (case k3_z => k_asm); (case k4_z => k_asm); (case k5_z => k_asm); (case h1_z => k_mem); (case hb_z => k_asm); (case h2_z => k_mem); (case h3_z => k_mem); (case h4_z => k_mem); (case r1_z => k_asm); (case r2_z => k_asm); (case r3_z => k_asm); (case hs_z => k_extra "MY sub"); (case hr_z => k_extra "MY room"); (case hu_z => k_extra "MY room"); (case l1_z => k_extra "MY len"); k_whole) | (refine' call_ready_recv ?k1_z ?k2_z ?k3_z ?k4_z ?k5_z ?hb_z ?h1_z ?h2_z ?h3_z ?h4_z ?hs_z ?hf_z ?hk_z ?hr_z ?hu_z ?r1_z ?r2_z ?r3_z ?l1_z ?_; (case hf_z => exact rfl); (case hk_z => exact rfl); (case k1_z => k_asm); (case k2_z => k_asm); (case k3_z => k_asm); (case k4_z => k_asm); (case k5_z => k_asm); (case h1_z => k_mem); (case hb_z => k_asm); (case h2_z => k_mem); (case h3_z => k_mem); (case h4_z => k_mem); (case r1_z => k_asm); (case r2_z => k_asm); (case r3_z => k_asm); (case hs_z => k_extra "MY sub"); (case hr_z => k_extra "MY room"); (case hu_z => k_extra "MY room"); (case l1_z => k_extra "MY len"); k_whole)); intro h' tk' F' N'; (try k_sweep)))
  (k_with "call ref!" => (k_here; (with_reducible show wpAny _ _ (call (Value.ref 28) _) _ _ _); k_dflt (first | (refine' call_case_send ?k1_z ?k2_z ?k3_z ?k4_z ?k5_z ?h1_z ?h2_z ?h3_z ?h4_z ?h5_z ?h6_z ?hs_z ?hf_z ?hk_z ?hr_z ?hu_z ?r1_z ?r2_z ?r3_z ?l1_z ?_; (case hf_z => exact rfl); (case hk_z => exact rfl); (case k1_z => k_asm); (case k2_z => k_asm); (case k3_z => k_asm); (case k4_z => k_asm); (case k5_z => k_asm); (case h1_z => k_mem); (case h2_z => k_mem); (case h3_z => k_mem); (case h4_z => k_mem); (case h5_z => k_mem); (case h6_z => k_mem); (case r1_z => k_asm); (case r2_z => k_asm); (case r3_z => k_asm); (case hs_z => k_extra "MY sub"); (case hr_z => k_extra "MY room"); (case hu_z => k_extra "MY room"); (case l1_z => k_extra "MY len"); k_whole) | (refine' call_case_recv ?k1_z ?k2_z ?k3_z ?k4_z ?k5_z ?h1_z ?h2_z ?h3_z ?h4_z ?h5_z ?h6_z ?hs_z ?hf_z ?hk_z ?hr_z ?hu_z ?r1_z ?r2_z ?r3_z ?l1_z ?_; (case hf_z => exact rfl); (case hk_z => exact rfl); (case k1_z => k_asm); (case k2_z => k_asm); (case k3_z => k_asm); (case k4_z => k_asm); (case k5_z => k_asm); (case h1_z => k_mem); (case h2_z => k_mem); (case h3_z => k_mem); (case h4_z => k_mem); (case h5_z => k_mem); (case h6_z => k_mem); (case r1_z => k_asm); (case r2_z => k_asm); (case r3_z => k_asm); (case hs_z => k_extra "MY sub"); (case hr_z => k_extra "MY room"); (case hu_z => k_extra "MY room"); (case l1_z => k_extra "MY len"); k_whole)); intro h' tk' F' N'; (try k_sweep)))
  (k_with "k_mem!" => with_reducible assumption)
  (k_with "MY cls" => first | exact cls_dict (by with_reducible assumption) | exact cls_rf | exact cls_ty (by decide) | fail "MY cls")
  (k_with "k_all!" => with_reducible assumption)
  (k_with "k_all!" => (refine' offTup ?N_z ?t_z ?s_z ?m_z ?c_z; (case N_z => k_asm); (case t_z => with_reducible assumption); (case s_z => k_extra "MY sub"); (case m_z => k_mem); (case c_z => k_extra "MY cls")))
  (k_with "eval ListComp!" => (k_here; (with_reducible show wpAny _ _ (eval (Expr.ListComp (Expr.Name _ _) [⟨Expr.Name _ _, _, [Expr.Compare _ [CmpOp.NotEq] _ _], _⟩] _ _) _) _ _ _); k_dflt (refine' filter_comp ?F_z ?N_z ?t_z ?c_z ?d_z ?k1_z ?k2_z ?k3_z ?k4_z ?k5_z ?k6_z ?k7_z ?k8_z ?k9_z ?hh_z ?u_z ?_ ?k10_z; (case F_z => k_asm); (case N_z => k_asm); (case t_z => with_reducible assumption); (case k1_z => with_unfolding_all rfl); (case c_z => k_mem); (case d_z => k_asm); (case k2_z => decide); (case k3_z => rfl); (case k4_z => decide); (case k5_z => rfl); (case k6_z => intro _; rfl); (case k7_z => intro _; rfl); (case k8_z => decide); (case k9_z => decide); (case hh_z => exact rfl); (case u_z => ke_room); (case k10_z => intro _; with_unfolding_all rfl))))
  (k_with "FiltSrc!" => ((rename Fr _ _ _ _ => lF'); (rename News _ _ _ _ => lN'); (refine ⟨_, _, _, _, _, _, rfl, lF', lN', by k_mem, by (first | with_reducible assumption), by (k_extra "MY sub"), by k_mem, by k_asm, by (k_extra "MY len"), ?_⟩); clear lF' lN'; intro h' tk' l' n' F' N' ap'; (try k_sweep)))
  (k_with "ked_read!" => exact sel_reads (by with_reducible assumption))
  (k_with "subscriptTail!" => (k_here; (with_reducible show wpAny _ _ (subscriptTail _ _ (Value.ref _) (Value.int _ _)) _ _ _); k_dflt (refine' item_row ?N_z ?s_z ?m_z ?a_z ?b_z ?c_z ?d_z ?_; (case N_z => k_asm); (case m_z => with_reducible assumption); (case s_z => k_extra "MY sub"); (case a_z => decide); (case b_z => decide); (case c_z => rfl); (case d_z => rfl))))
  (k_with "eval Subscript!" => (k_here; (with_reducible show wpAny _ _ (eval (Expr.Subscript (Expr.Name _ _) (Expr.Constant (Const.int _) _ _) _) _) _ _ _); k_dflt (refine' rowName ?F_z ?N_z ?k_z ?x_z ?b_z ?v_z ?s_z ?m_z ?a_z ?c_z ?d_z ?_; (case F_z => k_asm); (case N_z => k_asm); (case k_z => rfl); (case x_z => rfl); (case b_z => decide); (case v_z => rfl); (case m_z => with_reducible assumption); (case s_z => k_extra "MY sub"); (case a_z => decide); (case c_z => rfl); (case d_z => rfl); k_whole)))
  (k_with "k_memK!" => first | (refine Bef.head ?_; k_memK) | (refine Bef.tail ?_; k_memK))
  (k_with "k_ne!" => (refine neN ?_; (try dsimp only); first | exact Aps.get (by with_reducible assumption) (by k_memK) | exact (Aps.get (by with_reducible assumption) (by k_memK)).symm | exact AllAp.get (by with_reducible assumption) (by k_memK) | exact (AllAp.get (by with_reducible assumption) (by k_memK)).symm | omega))
  (k_with "newTuple!" => (k_here; k_dflt (refine' newTupS ?F_z ?N_z ?z_z ?_; (case F_z => k_asm); (case N_z => k_asm); (case z_z => rfl); k_whole); intro Dq' hq' lq' Fq' Nq'; (try k_sweep)))
  (k_with "newList!" => (k_here; k_dflt (refine' newListS ?F_z ?N_z ?z_z ?_; (case F_z => k_asm); (case N_z => k_asm); (case z_z => rfl); k_whole); intro Dq' hq' lq' Fq' Nq'; (try k_sweep)))
  (k_with "MYM" => with_reducible (first | exact mm0 | exact mm1 | exact mm2 | exact mm3 | exact mm4 | exact mm5 | exact mm6 | exact mm7 | exact mm8 | exact mm9 | exact mm10 | exact mm11 | exact mm12 | exact mm13 | exact mm14 | exact mm15 | exact mm16 | exact mm17 | exact mm18 | exact mm19 | exact mm20 | exact mm21 | exact mm22 | exact mm23 | exact mm24 | exact mm25 | exact mm26 | exact mm27 | exact mm28 | exact mm29 | exact mm30 | exact mm31 | exact mm32 | exact mm33 | exact mm34 | exact mm35 | exact mm36 | exact mm37 | exact mm38 | exact mm39 | exact mm40 | exact mm41 | exact mm42 | exact mm43 | exact mm44 | exact mm45 | exact mm46 | exact mm47))
  (k_with "MYB" => (first | (with_reducible refine bf0 ?_) | (with_reducible refine bg0 ?_) | (with_reducible refine bf1 ?_) | (with_reducible refine bg1 ?_) | (with_reducible refine bf2 ?_) | (with_reducible refine bg2 ?_) | (with_reducible refine bf3 ?_) | (with_reducible refine bg3 ?_) | (with_reducible refine bf4 ?_) | (with_reducible refine bg4 ?_) | (with_reducible refine bf5 ?_) | (with_reducible refine bg5 ?_) | (with_reducible refine bf6 ?_) | (with_reducible refine bg6 ?_) | (with_reducible refine bf7 ?_) | (with_reducible refine bg7 ?_) | (with_reducible refine bf8 ?_) | (with_reducible refine bg8 ?_) | (with_reducible refine bf9 ?_) | (with_reducible refine bg9 ?_) | (with_reducible refine bf10 ?_) | (with_reducible refine bg10 ?_) | (with_reducible refine bf11 ?_) | (with_reducible refine bg11 ?_)); k_extra "MYM")
  (k_with "k_mem!" => k_extra "MYM")
  (k_with "k_all!" => exact ltS_all (by with_reducible assumption))
  (k_with "k_ne!" => (refine neN ?_; (try dsimp only); first | (refine' allLt_ne ?L_z ?M_z; (case L_z => with_reducible assumption); (case M_z => k_extra "MYM")) | (refine' lt_neS ?L_z ?M_z; (case L_z => with_reducible assumption); (case M_z => k_extra "MYM")) | (refine' aps_ne ?A_z ?B_z; (case A_z => with_reducible assumption); (case B_z => k_extra "MYB")) | (refine' lt_ne1 ?L_z ?M_z; (case L_z => with_reducible assumption); (case M_z => k_extra "MYM")) | (refine' lt_neS1 ?L_z ?M_z; (case L_z => with_reducible assumption); (case M_z => k_extra "MYM")) | exact ne_lt (by with_reducible assumption) | exact (ne_lt (by with_reducible assumption)).symm | (refine' allLt_ne2 ?e_z ?L_z ?M_z; (case e_z => with_reducible assumption); (case L_z => with_reducible assumption); (case M_z => k_extra "MYM")) | (refine' (allLt_ne2 ?e_z ?L_z ?M_z).symm; (case e_z => with_reducible assumption); (case L_z => with_reducible assumption); (case M_z => k_extra "MYM")) | exact AllAp.get (by with_reducible assumption) (by k_mem) | exact (AllAp.get (by with_reducible assumption) (by k_mem)).symm | fail "MY ne"))
  (k_with "MY split" => (repeat (rename (_ ∧ _) => hc9; obtain ⟨_, _⟩ := hc9)))
  (k_with "MY lts" => (repeat' (first | with_reducible assumption | exact True.intro | refine And.intro ?_ ?_)))
  (k_with "MY stay" => first | (refine' allk ?a9_z ?b9_z; (case a9_z => first | exact fun _ => News.get (by with_reducible assumption) (by k_mem) | exact fun h => absurd (by k_memK) h); (case b9_z => k_extra "MY stay")) | exact fun q hq _ => (by with_reducible assumption : News _ _ _ _).get ((by k_extra "MY sub" : ∀ p ∈ _, p ∈ _) q hq))
  (k_with "MY now" => first | exact List.forall_mem_nil _ | (refine' allk ?a9_z ?b9_z; (case a9_z => exact News.get (by with_reducible assumption) (by k_mem)); (case b9_z => k_extra "MY now")))
  (k_with "MY made" => first | exact List.forall_mem_nil _ | (refine' allk ?a9_z ?b9_z; (case a9_z => exact ⟨News.get (by with_reducible assumption) (by k_mem), News.fresh (by with_reducible assumption) (by k_mem)⟩); (case b9_z => k_extra "MY made")))
  (k_with "MY aps1" => first | (refine' ltS_ap ?L_z ?s_z; (case L_z => with_reducible assumption); (case s_z => first | exact fun h => h | exact fun h => h.2 | exact fun h => h.2.2 | exact fun h => h.2.2.2 | exact fun h => h.2.2.2.2 | exact fun h => h.2.2.2.2.2 | exact fun h => h.2.2.2.2.2.2 | exact fun h => h.2.2.2.2.2.2.2)) | exact allLt_ap (by k_extra "MY lts"))
  (k_with "MY apart" => first | exact List.forall_mem_nil _ | (refine' allk ?a9_z ?b9_z; (case a9_z => k_extra "MY aps1"); (case b9_z => k_extra "MY apart")))
  (k_with "MY ap" => first | (refine allc ⟨AllAp.get (by with_reducible assumption) (by k_mem), ?_⟩; k_extra "MY ap") | exact fun q hq => AllAp.get (by with_reducible assumption) ((by k_extra "MY sub" : ∀ p ∈ _, p ∈ _) q hq))
  (k_with "call ref!" => (k_here; (with_reducible show wpAny _ _ (call (Value.ref 399) _) _ _ _); k_dflt (first | (refine' call_offerA ?k1_z ?k2_z ?k3_z ?k4_z ?k5_z ?h1_z ?h2_z ?h3_z ?h4_z ?h5_z ?hs_z ?hf_z ?hk_z ?hr_z ?hu_z ?ap_z ?tu_z ?ro_z ?rd_z ?la_z ?as_z ?U_z ?_; (case hf_z => exact rfl); (case hk_z => exact rfl); (case k1_z => k_asm); (case k2_z => k_asm); (case k3_z => k_asm); (case k4_z => k_asm); (case k5_z => k_asm); (case tu_z => with_reducible assumption); (case h1_z => k_mem); (case h2_z => k_mem); (case h3_z => k_mem); (case h4_z => k_mem); (case h5_z => k_mem); (case ro_z => k_mem); (case as_z => with_reducible assumption); (case rd_z => k_asm); (case ap_z => with_reducible assumption); (case hs_z => k_extra "MY sub"); (case hr_z => k_extra "MY room"); (case hu_z => k_extra "MY room"); (case la_z => k_extra "MY len"); (case U_z => k_updF); intro told' e1' e2' e3' u1' u2' u3' h' tk' F' N' ap1' ap2' ap3' ap4'; (try dsimp only at N'); (try k_sweep)) | (refine' call_offerB ?k1_z ?k2_z ?k3_z ?k4_z ?k5_z ?h1_z ?h2_z ?h3_z ?h4_z ?h5_z ?hs_z ?hf_z ?hk_z ?hr_z ?hu_z ?ap_z ?tu_z ?ro_z ?la_z ?lt_z ?U_z ?_; (case hf_z => exact rfl); (case hk_z => exact rfl); (case k1_z => k_asm); (case k2_z => k_asm); (case k3_z => k_asm); (case k4_z => k_asm); (case k5_z => k_asm); (case tu_z => with_reducible assumption); (case h1_z => k_mem); (case h2_z => k_mem); (case h3_z => k_mem); (case h4_z => k_mem); (case h5_z => k_mem); (case ro_z => k_mem); (case ap_z => with_reducible assumption); (case hs_z => k_extra "MY sub"); (case hr_z => k_extra "MY room"); (case hu_z => k_extra "MY room"); (case la_z => k_extra "MY len"); (case lt_z => with_reducible assumption); (case U_z => k_updF); intro told' e1' u1' h' tk' F' N' ap1' ap2'; (try dsimp only at N'); (try k_sweep)) | (refine' call_offerC ?k1_z ?k2_z ?k3_z ?k4_z ?k5_z ?h1_z ?h2_z ?h3_z ?h4_z ?h5_z ?hs_z ?hf_z ?hk_z ?hr_z ?hu_z ?ap_z ?tu_z ?ro_z ?la_z ?lb_z ?lt_z ?U_z ?_; (case hf_z => exact rfl); (case hk_z => exact rfl); (case k1_z => k_asm); (case k2_z => k_asm); (case k3_z => k_asm); (case k4_z => k_asm); (case k5_z => k_asm); (case tu_z => with_reducible assumption); (case h1_z => k_mem); (case h2_z => k_mem); (case h3_z => k_mem); (case h4_z => k_mem); (case h5_z => k_mem); (case ro_z => k_mem); (case ap_z => with_reducible assumption); (case hs_z => k_extra "MY sub"); (case hr_z => k_extra "MY room"); (case hu_z => k_extra "MY room"); (case la_z => k_extra "MY len"); (case lb_z => k_extra "MY len"); (case lt_z => with_reducible assumption); (case U_z => k_updF); intro told' e1' u1' h' tk' F' N' ap1' ap2'; (try dsimp only at N'); (try k_sweep)))))
  (k_with "call ref!" => (k_here; (with_reducible show wpAny _ _ (call (Value.ref 406) _) _ _ _); k_dflt (first | (refine' call_takeA ?k1_z ?k2_z ?k3_z ?k4_z ?k5_z ?h1_z ?h2_z ?h3_z ?h4_z ?h5_z ?hs_z ?hf_z ?hk_z ?hr_z ?hu_z ?ap_z ?tu_z ?rd_z ?re_z ?la_z ?lb_z ?as_z ?U_z ?V_z ?_; (case hf_z => exact rfl); (case hk_z => exact rfl); (case k1_z => k_asm); (case k2_z => k_asm); (case k3_z => k_asm); (case k4_z => k_asm); (case k5_z => k_asm); (case tu_z => with_reducible assumption); (case h1_z => k_mem); (case h2_z => k_mem); (case h3_z => k_mem); (case h4_z => k_mem); (case h5_z => k_mem); (case as_z => with_reducible assumption); (case rd_z => k_asm); (case re_z => k_asm); (case ap_z => with_reducible assumption); (case hs_z => k_extra "MY sub"); (case hr_z => k_extra "MY room"); (case hu_z => k_extra "MY room"); (case la_z => k_extra "MY len"); (case lb_z => k_extra "MY len"); (case U_z => k_updF); (case V_z => (try dsimp only); k_updF); intro told' e1' e2' e3' u1' u2' u3' nt' h' tk' F' N' ap1' ap2' ap3' ap4'; (try dsimp only at N'); (try k_sweep)) | (refine' call_takeB ?k1_z ?k2_z ?k3_z ?k4_z ?k5_z ?h1_z ?h2_z ?h3_z ?h4_z ?h5_z ?hs_z ?hf_z ?hk_z ?hr_z ?hu_z ?ap_z ?tu_z ?rd_z ?la_z ?U_z ?_; (case hf_z => exact rfl); (case hk_z => exact rfl); (case k1_z => k_asm); (case k2_z => k_asm); (case k3_z => k_asm); (case k4_z => k_asm); (case k5_z => k_asm); (case tu_z => with_reducible assumption); (case h1_z => k_mem); (case h2_z => k_mem); (case h3_z => k_mem); (case h4_z => k_mem); (case h5_z => k_mem); (case rd_z => k_asm); (case ap_z => with_reducible assumption); (case hs_z => k_extra "MY sub"); (case hr_z => k_extra "MY room"); (case hu_z => k_extra "MY room"); (case la_z => k_extra "MY len"); (case U_z => k_updF); intro told' e1' u1' nt' h' tk' F' N' ap1' ap2'; (try dsimp only at N'); (try k_sweep)) | (refine' call_takeC ?k1_z ?k2_z ?k3_z ?k4_z ?k5_z ?h1_z ?h2_z ?h3_z ?h4_z ?h5_z ?hs_z ?hf_z ?hk_z ?hr_z ?hu_z ?ap_z ?tu_z ?rd_z ?la_z ?as_z ?U_z ?_; (case hf_z => exact rfl); (case hk_z => exact rfl); (case k1_z => k_asm); (case k2_z => k_asm); (case k3_z => k_asm); (case k4_z => k_asm); (case k5_z => k_asm); (case tu_z => with_reducible assumption); (case h1_z => k_mem); (case h2_z => k_mem); (case h3_z => k_mem); (case h4_z => k_mem); (case h5_z => k_mem); (case as_z => with_reducible assumption); (case rd_z => k_asm); (case ap_z => with_reducible assumption); (case hs_z => k_extra "MY sub"); (case hr_z => k_extra "MY room"); (case hu_z => k_extra "MY room"); (case la_z => k_extra "MY len"); (case U_z => k_updF); intro told' e1' e2' e3' u1' u2' u3' nt' h' tk' F' N' ap1' ap2' ap3' ap4'; (try dsimp only at N'); (try k_sweep)) | (refine' call_takeD ?k1_z ?k2_z ?k3_z ?k4_z ?k5_z ?h1_z ?h2_z ?h3_z ?h4_z ?h5_z ?hs_z ?hf_z ?hk_z ?hr_z ?hu_z ?ap_z ?tu_z ?la_z ?U_z ?_; (case hf_z => exact rfl); (case hk_z => exact rfl); (case k1_z => k_asm); (case k2_z => k_asm); (case k3_z => k_asm); (case k4_z => k_asm); (case k5_z => k_asm); (case tu_z => with_reducible assumption); (case h1_z => k_mem); (case h2_z => k_mem); (case h3_z => k_mem); (case h4_z => k_mem); (case h5_z => k_mem); (case ap_z => with_reducible assumption); (case hs_z => k_extra "MY sub"); (case hr_z => k_extra "MY room"); (case hu_z => k_extra "MY room"); (case la_z => k_extra "MY len"); (case U_z => k_updF); intro told' e1' u1' nt' h' tk' F' N' ap1' ap2'; (try dsimp only at N'); (try k_sweep)))))
  (k_with "call ref!" => (k_here; (with_reducible show wpAny _ _ (call (Value.ref 423) _) _ _ _); k_dflt (refine' call_forget ?k1_z ?k2_z ?k3_z ?k4_z ?k5_z ?h1_z ?h2_z ?h3_z ?h4_z ?h5_z ?hs_z ?hf_z ?hk_z ?hr_z ?hu_z ?ap_z ?tu_z ?rS_z ?rR_z ?la_z ?lb_z ?U_z ?_; (case hf_z => exact rfl); (case hk_z => exact rfl); (case k1_z => k_asm); (case k2_z => k_asm); (case k3_z => k_asm); (case k4_z => k_asm); (case k5_z => k_asm); (case tu_z => with_reducible assumption); (case h1_z => k_mem); (case h2_z => k_mem); (case h3_z => k_mem); (case h4_z => k_mem); (case h5_z => k_mem); (case rS_z => with_reducible assumption); (case rR_z => with_reducible assumption); (case ap_z => with_reducible assumption); (case hs_z => k_extra "MY sub"); (case hr_z => k_extra "MY room"); (case hu_z => k_extra "MY room"); (case la_z => k_extra "MY len"); (case lb_z => k_extra "MY len"); (case U_z => k_updF); intro l1' l2' n1' n2' h' tk' F' N' ap1' ap2' ne'; (try dsimp only at N'); (try k_sweep))))
  trivial
/-- a loop over a range by what holds ahead of each turn -/
theorem range_loop {w : World} {A : Around} {E : Value → Shared → Prop} {s : Shared} {env : Env} {h₀ : Heap} {x : Str} {body : List Stmt} {Q : Flow → Shared → Prop} {r : Addr} {a₀ b₀ : Int} {t₀ u₀ v₀ : Tok} {n : Nat} {m₀ : Str → Option Value} {news nx₀ : List (Addr × Obj)} (J : Nat → (Str → Option Value) → List (Addr × Obj) → Prop)
    (hh : A.handled = none) (hr : IsRange s.heap r a₀ b₀ 1 t₀ u₀ v₀) (hsmall : Builtin.Range.small a₀ b₀ 1 = true) (hsz : Builtin.Range.rangeSize a₀ b₀ 1 = (n : Int)) (F : Fr h₀ env.locals s.heap m₀) (N : News h₀ env.locals s.heap news) (hn : ∀ p ∈ nx₀, p ∈ news) (hj : J 0 m₀ nx₀)
    (turn : ∀ i t m₁ nx h tk own, i < n → OwnOff own (nx.map (·.1)) → J i m₁ nx → Fr h₀ env.locals h (fun y => if y = x then some (.int (a₀ + (i : Int)) t) else m₁ y) → News h₀ env.locals h (nx ++ own) →
      wpAny (model PR w) A (execs body env) (InvPostG h₀ env.locals (J (i + 1)) own { s with heap := h, toks := tk } Q) E { s with heap := h, toks := tk })
    (done : ∀ m₁ nx h tk, J n m₁ nx → Fr h₀ env.locals h m₁ → News h₀ env.locals h nx → Q .next { s with heap := h, toks := tk }) :
    wpAny (model PR w) A (pyIter (.ref r)) (fun it s₂ => LoopAtV PR w A h₀ env x body Q E it s₂) E s := by
  refine wpAny_pyIter_range hr hsmall ?_
  have W : Walks PR w A s.heap.objs.size [s.heap.objs.size] [s.heap.objs.size] n (fun i v => i < n ∧ ∃ t, v = .int (a₀ + i * 1) t)
      (fun i h => IsRangeIter h s.heap.objs.size (a₀ + (i : Nat) * 1) ((n : Int) - (i : Nat)) 1) := (Walks.range hh _ a₀ 1 n).bound
  refine kdr_loop J W (fun _ h => h) (fun _ h => h) ?_ ?_ ?_ ?_ (by show IsRangeIter _ _ _ _ _; rw [hsz]; simpa using Heap.get?_push_size _ rfl) (F.push _) (fun p hp => ⟨Heap.get?_push_of_some _ (N p (hn p hp)).1, (N p (hn p hp)).2⟩) hj ?_ ?_
  · intro i h hi b hb
    rw [List.mem_singleton.mp hb]
    exact ⟨_, hi⟩
  · intro hm
    exact absurd F.ns.lt ((List.mem_singleton.mp hm) ▸ Nat.lt_irrefl _)
  · intro b hb
    rw [List.mem_singleton.mp hb]
    exact next_is_new F
  · intro p hp hI
    exact absurd (Heap.lt_size (N p (hn p hp)).1) ((List.mem_singleton.mp hI) ▸ Nat.lt_irrefl _)
  · rintro i v m₁ nx h tk own hi ⟨_, t, rfl⟩ hoff hJ F₁ N₁
    have e1 : a₀ + (i : Int) * 1 = a₀ + (i : Int) := by omega
    rw [e1] at F₁
    exact turn i t m₁ nx h tk own hi hoff hJ F₁ N₁
  · intro m₁ nx h tk hJ F₁ N₁
    exact done m₁ nx h tk hJ F₁ N₁

section
variable {w : World} {mean : ExcName → Option Value} {mg mb : Str → Option Value} {A₀ : Around} {dp un : Nat} {gd : Option (List Code)} {base g : Heap} {outer : List Env} {L : Addr} {m : Str → Option Value} {env : Env} {s : Shared} {E : Value → Shared → Prop} {Q : Value → Shared → Prop}
    {oD : Obj} {C dC b sq r D k gv tk pot : Addr} {t1 t2 t3 t4 t5 tr ta tb tt : Tok} {n1 n2 n3 n4 n5 n6 : Nat} {room turn : Int} {bufV sndV rcvV : List Value} {x y : Int} {tl own : List (Addr × Obj)} {len : Nat}
theorem call_deed (B : Below A₀ base outer g) (X : (Mine.hd0.heap_1_1 w.params).In g) (T : Top PV LO mean mg mb g) (F : Fr g L s.heap m)
    (N : News g L s.heap (chLed w oD C dC b sq r D k gv tk pot t1 t2 t3 t4 t5 tr ta tb n1 n2 n3 n4 n5 n6 room bufV sndV rcvV x y tl ++ own))
    (off : OwnOff own ((chLed w oD C dC b sq r D k gv tk pot t1 t2 t3 t4 t5 tr ta tb n1 n2 n3 n4 n5 n6 room bufV sndV rcvV x y tl).map (·.1)))
    (hf : env.frame = some L) (hke : env.scope.kind = .function) (hroom : dp ≤ 900) (hun : un ≤ 8500) (hlen : len ≤ 50) (hturn : 0 ≤ turn) (hturn2 : turn ≤ 10)
    (ok : StOk w oD C dC b sq r D k gv tk pot bufV sndV rcvV tl x y len)
    (h : ∀ h' tk' oD b sq r k gv tk t1 t2 t3 t4 t5 tr ta tb n1 n2 n3 n4 n5 n6 bufV sndV rcvV x y tl, Fr g L h' m →
      News g L h' (chLed w oD C dC b sq r D k gv tk pot t1 t2 t3 t4 t5 tr ta tb n1 n2 n3 n4 n5 n6 room bufV sndV rcvV x y tl ++ own) →
      OwnOff own ((chLed w oD C dC b sq r D k gv tk pot t1 t2 t3 t4 t5 tr ta tb n1 n2 n3 n4 n5 n6 room bufV sndV rcvV x y tl).map (·.1)) →
      StOk w oD C dC b sq r D k gv tk pot bufV sndV rcvV tl x y (len + 1) → Q (.bool true) { s with heap := h', toks := tk' }) :
    wpAny (model PR w) ⟨none, dp, some (env :: outer), gd, un⟩ (call (.ref 742) [.ref pot, .ref C, .ref D, .int turn tt]) Q E s := by
  refine callI (P := DeedPost w C dC D pot room (len + 1)) (chLed w oD C dC b sq r D k gv tk pot t1 t2 t3 t4 t5 tr ta tb n1 n2 n3 n4 n5 n6 room bufV sndV rcvV x y tl) B X T F rfl hf hke (fun p hp => N p (List.mem_append_left _ hp))
    (fun g' G hx N' => deed_spec G hx hroom hun hlen hturn hturn2 ok N') ?_
  rintro v h' tk' g' F' keep keep' toN ⟨rfl, oD', b', sq', r', k', gv', tk'', t1', t2', t3', t4', t5', tr', ta', tb', m1, m2, m3, m4, m5, m6, bufV', sndV', rcvV', x', y', tl', NG, ok'⟩
  have hown : ∀ p ∈ own, p.1 ∉ (chLed w oD C dC b sq r D k gv tk pot t1 t2 t3 t4 t5 tr ta tb n1 n2 n3 n4 n5 n6 room bufV sndV rcvV x y tl).map (·.1) := fun p hp q => off p hp _ q rfl
  refine h h' tk' oD' b' sq' r' k' gv' tk'' t1' t2' t3' t4' t5' tr' ta' tb' m1 m2 m3 m4 m5 m6 bufV' sndV' rcvV' x' y' tl' F' (fun p hp => ?_) (fun p hp a ha => ?_) ok'
  · rcases List.mem_append.mp hp with q | q
    · exact toN _ NG p q
    · have z := N p (List.mem_append_right _ q)
      exact ⟨keep _ _ z.1 (hown p q), z.2⟩
  · intro e
    obtain ⟨q, hq, e2⟩ := List.mem_map.mp ha
    have z := N p (List.mem_append_right _ hp)
    have z2 := keep' _ _ z.1 (hown p hp)
    have z3 := (NG q hq).2
    rw [e2, ← e, z2] at z3
    cases z3
end

/-- as Rd, one deeper -/
def Rd7 (tl : List (Addr × Obj)) (vs : List Value) : Prop := ∃ ds, DatAll tl vs ds ∧ ∀ d ∈ ds, kqdOk 7 d = true
theorem rd7_of {tl : List (Addr × Obj)} : ∀ {vs : List Value}, (∀ v ∈ vs, ∃ d, DatIn tl v d ∧ kqdOk 7 d = true) → Rd7 tl vs
  | [], _ => ⟨[], .nil, List.forall_mem_nil _⟩
  | v :: vs, h => by
    obtain ⟨d, h1, h2⟩ := h v (.head _)
    obtain ⟨ds, a, b⟩ := rd7_of (vs := vs) fun x hx => h x (.tail _ hx)
    exact ⟨d :: ds, .cons h1 a, allc ⟨h2, b⟩⟩
theorem IsSRow.dat7 {tl : List (Addr × Obj)} {v : Value} (h : IsSRow tl v) : ∃ d, DatIn tl v d ∧ kqdOk 7 d = true := by
  obtain ⟨a, h, x, u, sv, n, t1, t2, t3, rfl, hm, hs⟩ := h
  refine ⟨.tuple [.int h, .int x, .int u, oDat sv], .tuple (vs := [.int h t1, .int x t2, .int u t3, sv]) hm (.cons (.int _ _) (.cons (.int _ _) (.cons (.int _ _) (.cons (sel_dat hs) .nil)))), ?_⟩
  have := sel_ok hs 6
  simp [kqdOk, this]
theorem IsRRow.dat7 {tl : List (Addr × Obj)} {v : Value} (h : IsRRow tl v) : ∃ d, DatIn tl v d ∧ kqdOk 7 d = true := by
  obtain ⟨a, h, u, sv, n, t1, t3, rfl, hm, hs⟩ := h
  refine ⟨.tuple [.int h, .none, .int u, oDat sv], .tuple (vs := [.int h t1, .none, .int u t3, sv]) hm (.cons (.int _ _) (.cons .none (.cons (.int _ _) (.cons (sel_dat hs) .nil)))), ?_⟩
  have := sel_ok hs 6
  simp [kqdOk, this]
theorem int_dat7 {tl : List (Addr × Obj)} {v : Value} (h : isInt v = true) : ∃ d, DatIn tl v d ∧ kqdOk 7 d = true := by
  cases v <;> first | exact ⟨_, .int _ _, rfl⟩ | cases h
theorem ne_three {w : World} {A : Around} {E : Value → Shared → Prop} {s : Shared} {g : Heap} {L a a2 b sq r k gv tk : Addr} {n n0 n1 n2 n3 n4 n5 n6 : Nat} {news tl : List (Addr × Obj)} {bufV sndV rcvV : List Value} {Q : Value → Shared → Prop} (N : News g L s.heap news)
    (ma : (a, listOf #[.ref b, .ref sq, .ref r] n) ∈ news) (mb : (a2, listOf #[.ref k, .ref gv, .ref tk] n0) ∈ news)
    (h1 : (b, listOf bufV.toArray n1) ∈ news) (h2 : (sq, listOf sndV.toArray n2) ∈ news) (h3 : (r, listOf rcvV.toArray n3) ∈ news)
    (h4 : (k, listOf bufV.toArray n4) ∈ news) (h5 : (gv, listOf sndV.toArray n5) ∈ news) (h6 : (tk, listOf rcvV.toArray n6) ∈ news) (hs : ∀ p ∈ tl, p ∈ news)
    (rd1 : Rd7 tl bufV) (rd2 : Rd7 tl sndV) (rd3 : Rd7 tl rcvV) (hu : A.units + 64 < cLine) (h : Q (.bool false) s) : wpAny (model PR w) A (compareOp .NotEq (.ref a) (.ref a2)) Q E s := by
  obtain ⟨d1, e1, o1⟩ := rd1
  obtain ⟨d2, e2, o2⟩ := rd2
  obtain ⟨d3, e3, o3⟩ := rd3
  have ok : ∀ d ∈ [Dat.list d1, Dat.list d2, Dat.list d3], kqdOk 8 d = true := by
    intro d hd
    simp only [List.mem_cons, List.not_mem_nil, or_false] at hd
    rcases hd with rfl | rfl | rfl
    · exact List.all_eq_true.mpr o1
    · exact List.all_eq_true.mpr o2
    · exact List.all_eq_true.mpr o3
  refine kqd_ne (xs := [.ref b, .ref sq, .ref r]) (ys := [.ref k, .ref gv, .ref tk]) N ma rfl rfl (.cons (.list h1 (e1.mono hs)) (.cons (.list h2 (e2.mono hs)) (.cons (.list h3 (e3.mono hs)) .nil))) (fun _ h => h) mb rfl rfl (.cons (.list h4 (e1.mono hs)) (.cons (.list h5 (e2.mono hs)) (.cons (.list h6 (e3.mono hs)) .nil))) (fun _ h => h) ok ok hu ?_
  simpa using h

end
section
example : True := by
  w_top off
  trivial
example : True := by
  (k_with "MY step" => first | (k_unfold; (try dsimp only)) | (k_end; wrow_close) | walk1 | (dsimp only; walk1) | (leave1; walk_say "STEP leave1"; try dsimp only) | fail "no step")
  (k_with "MY sub" => exact fun _ h => List.mem_append_left _ h)
  trivial
def ChJ (w : World) (C dC D pot : Addr) (room : Int) (trm : Tok) (len : Nat) (m : Str → Option Value) (nx : List (Addr × Obj)) : Prop :=
  ∃ oD b sq r k gv tk t1 t2 t3 t4 t5 tr ta tb n1 n2 n3 n4 n5 n6 bufV sndV rcvV x y tl, nx = chLed w oD C dC b sq r D k gv tk pot t1 t2 t3 t4 t5 tr ta tb n1 n2 n3 n4 n5 n6 room bufV sndV rcvV x y tl ∧ StOk w oD C dC b sq r D k gv tk pot bufV sndV rcvV tl x y len ∧
    m (Str.ofString "pot") = some (.ref pot) ∧ m (Str.ofString "room") = some (.int room trm) ∧ m (Str.ofString "channel") = some (.ref C) ∧ m (Str.ofString "book") = some (.ref D)
theorem Aps.of {a : Addr} {l : List Addr} (h : ∀ b ∈ l, a ≠ b) (r : Aps l) : Aps (a :: l) := ⟨fun b hb => ⟨h b hb⟩, r⟩

section
variable {w : World} {A : Around} {E : Value → Shared → Prop} {s : Shared} {env : Env} {g : Heap} {x : Str} {body : List Stmt} {Q : Flow → Shared → Prop} {r₀ : Addr} {a₀ b₀ : Int} {t₀ u₀ v₀ : Tok} {n : Nat} {m₀ : Str → Option Value} {news : List (Addr × Obj)}
    {oD : Obj} {C dC b sq r D k gv tk pot : Addr} {t1 t2 t3 t4 t5 tr trm ta tb : Tok} {n1 n2 n3 n4 n5 n6 : Nat} {room : Int} {px py : Int}
theorem chan_loop (hh : A.handled = none) (hr : IsRange s.heap r₀ 0 b₀ 1 t₀ u₀ v₀) (hsmall : Builtin.Range.small 0 b₀ 1 = true) (hsz : Builtin.Range.rangeSize 0 b₀ 1 = (n : Int)) (F : Fr g env.locals s.heap m₀) (N : News g env.locals s.heap news)
    (hC : (C, instObj 433 dC) ∈ news) (hdC : (dC, chanD w t1 t2 t3 t4 t5 room tr b sq r) ∈ news) (hb : (b, listOf #[] n1) ∈ news) (hsq : (sq, listOf #[] n2) ∈ news) (hrc : (r, listOf #[] n3) ∈ news)
    (hD : (D, oD) ∈ news) (hk : (k, listOf #[] n4) ∈ news) (hgv : (gv, listOf #[] n5) ∈ news) (htk : (tk, listOf #[] n6) ∈ news) (hp : (pot, potObj px py ta tb) ∈ news)
    (book : Obj.IsDictOf (PySem.strKind PR w) oD [(Str.ofString "kept", Value.ref k), (Str.ofString "givers", Value.ref gv), (Str.ofString "takers", Value.ref tk)])
    (aps : Aps [C, dC, b, sq, r, D, k, gv, tk, pot]) (ok : PotOk px py)
    (e1 : m₀ (Str.ofString "pot") = some (.ref pot)) (e2 : m₀ (Str.ofString "room") = some (.int room trm)) (e3 : m₀ (Str.ofString "channel") = some (.ref C)) (e4 : m₀ (Str.ofString "book") = some (.ref D))
    (turn : ∀ (i : Nat) (t : Tok) (m₁ : Str → Option Value) h tk' own oD b sq r k gv tk t1 t2 t3 t4 t5 tr ta tb n1 n2 n3 n4 n5 n6 bufV sndV rcvV px py tl, i < n →
      OwnOff own ((chLed w oD C dC b sq r D k gv tk pot t1 t2 t3 t4 t5 tr ta tb n1 n2 n3 n4 n5 n6 room bufV sndV rcvV px py tl).map (·.1)) →
      StOk w oD C dC b sq r D k gv tk pot bufV sndV rcvV tl px py i →
      Fr g env.locals h (fun y => if y = x then some (.int (0 + (i : Int)) t) else if y = Str.ofString "pot" then some (.ref pot) else if y = Str.ofString "room" then some (.int room trm) else if y = Str.ofString "channel" then some (.ref C) else if y = Str.ofString "book" then some (.ref D) else m₁ y) →
      News g env.locals h (chLed w oD C dC b sq r D k gv tk pot t1 t2 t3 t4 t5 tr ta tb n1 n2 n3 n4 n5 n6 room bufV sndV rcvV px py tl ++ own) →
      wpAny (model PR w) A (execs body env) (InvPostG g env.locals (ChJ w C dC D pot room trm (i + 1)) own { s with heap := h, toks := tk' } Q) E { s with heap := h, toks := tk' })
    (done : ∀ m₁ h tk' oD b sq r k gv tk t1 t2 t3 t4 t5 tr ta tb n1 n2 n3 n4 n5 n6 bufV sndV rcvV px py tl,
      StOk w oD C dC b sq r D k gv tk pot bufV sndV rcvV tl px py n → Fr g env.locals h m₁ →
      News g env.locals h (chLed w oD C dC b sq r D k gv tk pot t1 t2 t3 t4 t5 tr ta tb n1 n2 n3 n4 n5 n6 room bufV sndV rcvV px py tl) → Q .next { s with heap := h, toks := tk' }) :
    wpAny (model PR w) A (pyIter (.ref r₀)) (fun it s₂ => LoopAtV PR w A g env x body Q E it s₂) E s := by
  refine range_loop (nx₀ := chLed w oD C dC b sq r D k gv tk pot t1 t2 t3 t4 t5 tr ta tb n1 n2 n3 n4 n5 n6 room [] [] [] px py []) (fun i m nx => ChJ w C dC D pot room trm i m nx) hh hr hsmall hsz F N ?_ ?_ ?_ ?_
  · intro p hp'
    simp only [chLed, List.mem_cons] at hp'
    rcases hp' with rfl | rfl | rfl | rfl | rfl | rfl | rfl | rfl | rfl | rfl | q
    all_goals first | assumption | cases q
  · exact ⟨oD, b, sq, r, k, gv, tk, t1, t2, t3, t4, t5, tr, ta, tb, n1, n2, n3, n4, n5, n6, [], [], [], px, py, [], rfl,
      ⟨book, aps, List.forall_mem_nil _, List.forall_mem_nil _, List.forall_mem_nil _, List.forall_mem_nil _, Nat.le_refl _, Nat.le_refl _, Nat.le_refl _, ok⟩, e1, e2, e3, e4⟩
  · rintro i t m₁ nx h tk' own hi hoff ⟨oD, b, sq, r, k, gv, tk, t1, t2, t3, t4, t5, tr, ta, tb, n1, n2, n3, n4, n5, n6, bufV, sndV, rcvV, px, py, tl, rfl, hst, f1, f2, f3, f4⟩ F₁ N₁
    refine turn i t m₁ h tk' own oD b sq r k gv tk t1 t2 t3 t4 t5 tr ta tb n1 n2 n3 n4 n5 n6 bufV sndV rcvV px py tl hi hoff hst ?_ N₁
    have e : (fun y => if y = x then some (Value.int (0 + (i : Int)) t) else if y = Str.ofString "pot" then some (.ref pot) else if y = Str.ofString "room" then some (.int room trm) else if y = Str.ofString "channel" then some (.ref C) else if y = Str.ofString "book" then some (.ref D) else m₁ y) = fun y => if y = x then some (Value.int (0 + (i : Int)) t) else m₁ y := by
      funext y
      split
      · rfl
      · split
        · rename_i q; rw [q, f1]
        · split
          · rename_i q; rw [q, f2]
          · split
            · rename_i q; rw [q, f3]
            · split
              · rename_i q; rw [q, f4]
              · rfl
    rw [e]
    exact F₁
  · rintro m₁ nx h tk' ⟨oD, b, sq, r, k, gv, tk, t1, t2, t3, t4, t5, tr, ta, tb, n1, n2, n3, n4, n5, n6, bufV, sndV, rcvV, px, py, tl, rfl, hst, _⟩ F₁ N₁
    exact done m₁ h tk' oD b sq r k gv tk t1 t2 t3 t4 t5 tr ta tb n1 n2 n3 n4 n5 n6 bufV sndV rcvV px py tl hst F₁ N₁
end

end
section
example : True := by
  w_top off
  trivial
theorem chLed_sub {w : World} {oD : Obj} {C dC b sq r D k gv tk pot : Addr} {t1 t2 t3 t4 t5 tr ta tb : Tok} {n1 n2 n3 n4 n5 n6 : Nat} {room : Int} {bufV sndV rcvV : List Value} {x y : Int} {tl own : List (Addr × Obj)} :
    ∀ p ∈ chLed w oD C dC b sq r D k gv tk pot t1 t2 t3 t4 t5 tr ta tb n1 n2 n3 n4 n5 n6 room bufV sndV rcvV x y tl, p ∈ chLed w oD C dC b sq r D k gv tk pot t1 t2 t3 t4 t5 tr ta tb n1 n2 n3 n4 n5 n6 room bufV sndV rcvV x y (tl ++ own) :=
  fun p h => (List.mem_append_left own h : p ∈ chLed w oD C dC b sq r D k gv tk pot t1 t2 t3 t4 t5 tr ta tb n1 n2 n3 n4 n5 n6 room bufV sndV rcvV x y tl ++ own)
theorem chLed_own {w : World} {oD : Obj} {C dC b sq r D k gv tk pot : Addr} {t1 t2 t3 t4 t5 tr ta tb : Tok} {n1 n2 n3 n4 n5 n6 : Nat} {room : Int} {bufV sndV rcvV : List Value} {x y : Int} {tl own : List (Addr × Obj)} :
    ∀ p ∈ own, p ∈ chLed w oD C dC b sq r D k gv tk pot t1 t2 t3 t4 t5 tr ta tb n1 n2 n3 n4 n5 n6 room bufV sndV rcvV x y (tl ++ own) :=
  fun p h => (List.mem_append_right (chLed w oD C dC b sq r D k gv tk pot t1 t2 t3 t4 t5 tr ta tb n1 n2 n3 n4 n5 n6 room bufV sndV rcvV x y tl) h : p ∈ chLed w oD C dC b sq r D k gv tk pot t1 t2 t3 t4 t5 tr ta tb n1 n2 n3 n4 n5 n6 room bufV sndV rcvV x y tl ++ own)
example : True := by
  (k_with "MY subc" => first | exact chLed_sub | (refine sub_cons ?_; k_extra "MY subc"))
  (k_with "MY subo" => first | exact chLed_own | (refine sub_cons ?_; k_extra "MY subo"))
  trivial
structure LedMark (I : Addr) (news : List (Addr × Obj)) : Prop where
  lt : ∀ p ∈ news, p.1 < I
theorem my_end {g h' : Heap} {L I : Addr} {oI : Obj} {news all : List (Addr × Obj)} {rest : (Str → Option Value) → List (Addr × Obj) → Prop} {s₁ : Shared} {tk : Nat} {m' : Str → Option Value} (mk : LedMark I news) (F : Fr g L h' m') (N : News g L h' all) (hI : (I, oI) ∈ all) (sub : ∀ p ∈ news, p ∈ all) (r : rest m' news) :
    UnrEndW g L s₁ [(I, oI)] rest { s₁ with heap := h', toks := tk } := by
  refine ⟨h', tk, m', news, rfl, F, fun p hp => ?_, fun p hp q hq e => ?_, r⟩
  · rcases List.mem_append.mp hp with hp | hp
    · rw [List.mem_singleton.mp hp]; exact N _ hI
    · exact N p (sub p hp)
  · rw [List.mem_singleton.mp hq] at e
    exact Nat.ne_of_lt (mk.lt p hp) e
example : True := by
  (k_with "pyIter ref!" => (k_here; (with_reducible show wpAny _ _ (pyIter (Value.ref _)) (fun it s₂ => TurnsAt _ _ _ _ _ _ _ _ _ it s₂) _ _); (rename Fr _ _ _ _ => lF'); (rename News _ _ _ _ => lN'); k_dflt (refine iter_listTurns (lo := listOf #[Value.ref _, Value.ref _] 0) (vs := [Value.ref _, Value.ref _]) (by rfl) lF' lN' (by k_mem) (by rfl) (by rfl) ?_); intro i' l1; (have mk9 := LedMark.mk l1); clear l1))
  (k_with "UnrEndW!" => ((rename LedMark _ _ => mk9); (rename Fr _ _ _ _ => lF'); (rename News _ _ _ _ => lN'); refine my_end mk9 lF' lN' (by k_mem) (by k_extra "MY sub") ⟨by k_subL, ?_⟩))
  (k_with "MY aps" => first | with_reducible assumption | (repeat' (first | exact True.intro | exact List.forall_mem_nil _ | refine And.intro ?_ ?_ | refine allc ?_ | exact ⟨by k_ne⟩)))
  (k_with "compareOp NotEq ref ref!" => (k_here; (with_reducible show wpAny _ _ (compareOp CmpOp.NotEq (Value.ref _) (Value.ref _)) _ _ _); k_dflt (refine' ne_three ?N_z ?ma_z ?mb_z ?h1_z ?h2_z ?h3_z ?h4_z ?h5_z ?h6_z ?hs_z ?r1_z ?r2_z ?r3_z ?u_z ?_; (case N_z => k_asm); (case ma_z => k_mem); (case mb_z => k_mem); (case h1_z => k_mem); (case h2_z => k_mem); (case h3_z => k_mem); (case h4_z => k_mem); (case h5_z => k_mem); (case h6_z => k_mem); (case r1_z => k_asm); (case r2_z => k_asm); (case r3_z => k_asm); (case hs_z => k_extra "MY sub"); (case u_z => ke_room))))
  (k_with "compareOp NotEq bool bool!" => (k_here; refine ne_bool ?_; rw [bne_self_eq_false]))
  trivial
set_option rowWalk.seconds 0 in
set_option maxRecDepth 100000 in
set_option maxHeartbeats 8000000 in
theorem chan_spec {w : World} {mean : ExcName → Option Value} {mg mb : Str → Option Value} {dp un : Nat} {gd : Option (List Code)} {base g : Heap} {fs : List Env} {s : Shared}
    {pot : Addr} {a b : Int} {ta tb : Tok} (G : Gd w mean mg mb ⟨none, dp, some fs, gd, un⟩ base fs g) (hx : Ext g s.heap)
    (hroom : dp ≤ 800) (hun : un ≤ 8000) (ok : PotOk a b)
    (N : NewsG g s.heap [(pot, potObj a b ta tb)]) :
    codeAny (model PR w) ⟨none, dp, some fs, gd, un⟩ (.call (.ref 749) ⟨[.ref pot], []⟩)
      (Done s g (fun v h' => v = .bool true ∧ ∃ a' b' ta' tb', PotOk a' b' ∧ h'.get? pot = some (potObj a' b' ta' tb'))) s := by
  refine unbx ?_
  simp (discharger := (k_dflt (
      refine' enterG (binds := [(Str.ofString "pot", .ref pot)]) G hx N ?k6 ?k7 ?k8 ?k9 ?kB ?_ ?c2 ?c3 ?c4 ?c5
      case k6 => k_is
      case k7 => k_is
      case k8 => exact Nat.lt_of_le_of_lt hroom (by decide)
      case k9 => exact BindsTo.of_eq rfl
      case kB => exact locs rfl
      case c2 => exact rfl
      case c3 => exact rfl
      case c4 => exact rfl
      case c5 => decide
      intro L' h' F' N'
      have B' := G.B
      have X' := G.X
      have T' := G.T
      clear N hx
      try dsimp only
      (try k_fold)
      repeat' ((fail_if_success (with_reducible show wpAny _ _ (pyIter _) _ _ _)); k_extra "MY step")
      rename IsRange _ _ _ _ _ _ _ _ => R9
      rename Fr _ _ _ _ => F9
      rename News _ _ _ _ => N9
      refine' chan_loop ?hh R9 ?hs ?hz F9 N9 ?hC ?hdC ?hb ?hsq ?hrc ?hD ?hk ?hgv ?htk ?hp ?book ?aps ?ok ?e1 ?e2 ?e3 ?e4 ?turn ?done
      case e1 => exact rfl
      case e2 => exact rfl
      case e3 => exact rfl
      case e4 => exact rfl
      case hC => k_mem
      case hdC => k_mem
      case hD => k_mem
      case book => assumption
      case hb => k_mem
      case hsq => k_mem
      case hrc => k_mem
      case hk => k_mem
      case hgv => k_mem
      case htk => k_mem
      case hp => k_mem
      case ok => assumption
      case hz => exact rangeSize_nat _ _
      case hs => exact small_one (by omega) (by omega) (by omega) (by omega)
      case hh => exact rfl
      case aps => k_extra "MY aps"
      case turn =>
        intro i t m₁ h tk' own oD b sq r k gv tk t1 t2 t3 t4 t5 tr ta tb n1 n2 n3 n4 n5 n6 bufV sndV rcvV px py tl hi off st F10 N10
        have hi' : i ≤ 6 := by omega
        clear F9 N9
        repeat' ((fail_if_success (with_reducible show wpAny _ _ (call (Value.ref 742) _) _ _ _)); k_extra "MY step")
        refine call_deed (len := i) B' X' T' F10 N10 off rfl rfl (by k_extra "MY room") (by k_extra "MY room") (by omega) (by omega) (by omega) st ?_
        clear F10 N10 off st
        intro h' tk'' oD b sq r k gv zk t1 t2 t3 t4 t5 tr ta tb n1 n2 n3 n4 n5 n6 bufV sndV rcvV px py tl F11 N11 off st
        have st' := st
        obtain ⟨book, aps, tup, bufI, snd, rcv, ln1, ln2, ln3, ok'⟩ := st'
        have rdB : Rd tl bufV := rd_of fun v hv => int_dat (bufI v hv)
        have rdS : Rd tl sndV := rd_of fun v hv => (snd v hv).dat
        have rdR : Rd tl rcvV := rd_of fun v hv => (rcv v hv).dat
        have rdB7 : Rd7 tl bufV := rd7_of fun v hv => int_dat7 (bufI v hv)
        have rdS7 : Rd7 tl sndV := rd7_of fun v hv => (snd v hv).dat7
        have rdR7 : Rd7 tl rcvV := rd7_of fun v hv => (rcv v hv).dat7
        have ln1' : bufV.length ≤ 100 := by omega
        unfold IsBook at book
        simp only [chLed, List.cons_append] at N11
        repeat' ((fail_if_success (with_reducible show InvEndG _ _ _ _ _ _)); k_extra "MY step")
        rename Fr _ _ _ _ => F12
        rename News _ _ _ _ => N12
        exact InvEndG.intro F12 N12 ⟨oD, b, sq, r, k, gv, zk, t1, t2, t3, t4, t5, tr, ta, tb, n1, n2, n3, n4, n5, n6, bufV, sndV, rcvV, px, py, tl, rfl, st, rfl, rfl, rfl, rfl⟩ off (by k_extra "MY subc") (by k_extra "MY subo")
      case done =>
        intro m₁ h tk' oD b sq r k gv tk t1 t2 t3 t4 t5 tr ta tb n1 n2 n3 n4 n5 n6 bufV sndV rcvV px py tl st F10 N10
        clear F9 N9
        simp only [chLed] at N10
        repeat' (k_extra "MY step")
        all_goals (try dsimp only)
        rename Fr _ _ _ _ => F12
        rename News _ _ _ _ => N12
        exact Done.of F12 ⟨rfl, px, py, ta, tb, st.pot, N12.get (by k_mem)⟩))) only [↓bx]

end
section
example : True := by
  w_top off
  k_with_none
  (k_with "ite!" => with_reducible (first | refine itT ?_ | refine itF ?_ | refine itNT ?_ | refine itNF ?_))
  (k_with "subscriptTail Name Constant ref str!" => (k_here; k_dflt (refine' itemN (knd := PySem.strKind _ _) ?N_z ?m_z ?d_z (strKind_is _ _ _ _) ?r_z ?_ ?s_z ?g_z; (case N_z => k_asm); (case m_z => k_mem); (case d_z => k_asm); (case r_z => rfl); (case s_z => with_unfolding_all rfl); (case g_z => (intro _; with_unfolding_all rfl)))))
  (k_with "subscriptTail Name Constant ref int!" => (k_here; first | k_extra "subscriptTail!" | k_dflt (refine' item_tupleT ?t_z ?a_z ?b_z ?c_z ?d_z ?_; (case t_z => exact News.isTup (by k_asm) (by k_mem)); (case a_z => decide); (case b_z => decide); (case c_z => rfl); (case d_z => rfl); k_whole)))
  (k_with "eval Name!" => (k_here; k_dflt (refine' nameX_L ?F_z ?v_z ?_ ?a_z ?b_z; (case F_z => k_asm); (case a_z => rfl); (case b_z => rfl); (case v_z => rfl); k_whole)))
  (k_with "exec Assign!" => ((with_reducible show wpAny _ _ (exec (Stmt.Assign [Expr.Name _ _] _ _) _) _ _ _); with_reducible refine wpAny_Assign_Name ?_))
  (k_with "MY rd" => first | exact RdArgs.nil | (refine' RdArgs.name ?x_z ?d_z ?v_z ?r_z; (case x_z => rfl); (case d_z => decide); (case v_z => rfl); (case r_z => k_extra "MY rd")) | (refine' RdArgs.str ?r_z; (case r_z => k_extra "MY rd")) | (refine' RdArgs.int ?r_z; (case r_z => k_extra "MY rd")) | (refine' RdArgs.bool ?r_z; (case r_z => k_extra "MY rd")) | (refine' RdArgs.non ?r_z; (case r_z => k_extra "MY rd")))
  (k_with "spliced!" => (k_here; (first | with_reducible show wpAny _ _ (spliced (backTo _ (starEach (Expr.Name _ _ :: _) _))) _ _ _ | with_reducible show wpAny _ _ (spliced (backTo _ (starEach (Expr.Constant _ _ _ :: _) _))) _ _ _); k_dflt (refine' args_rd ?F_z ?k_z ?r_z ?_; (case F_z => k_asm); (case k_z => rfl); (case r_z => k_extra "MY rd"); k_whole); (try dsimp only [List.cons_append, List.nil_append])))
  (k_with "eval Constant str!" => with_reducible refine const_str ?_)
  (k_with "eval Constant int!" => with_reducible refine const_int ?_)
  (k_with "storeName!" => (k_here; k_dflt (refine' storeN ?F_z ?N_z ?_ ?a_z ?b_z; (case F_z => k_asm); (case N_z => k_asm); (case a_z => rfl); (case b_z => rfl); k_whole; intro hq' Fq' Nq'; (try k_sweep))))
  (k_with "unpackItems ref!" => (k_here; k_dflt (refine' unpackN ?k1_z ?k2_z ?k3_z ?k4_z ?k5_z ?_; (case k1_z => k_asm); (case k2_z => k_asm); (case k3_z => kun_tup); (case k4_z => exact rfl); (case k5_z => exact rfl); k_whole); intro hq' Fq' Nq'; (try k_sweep)))
  (k_with "newTuple cons!" => (k_here; (with_reducible show wpAny _ _ (newTuple [_, _]) _ _ _); k_dflt (first | (refine' tupTo2 ?F_z ?N_z ?k_z ?x_z ?y_z ?hh_z ?_; (case F_z => k_asm); (case N_z => k_asm); (case k_z => rfl); (case x_z => rfl); (case y_z => rfl); (case hh_z => exact rfl); k_whole) | (refine' tupTo2s ?F_z ?N_z ?t_z ?k_z ?x_z ?y_z ?hh_z ?_; (case F_z => k_asm); (case N_z => k_asm); (case t_z => with_unfolding_all rfl); (case k_z => rfl); (case x_z => rfl); (case y_z => rfl); (case hh_z => exact rfl); k_whole)); intro hq' Fq' Nq'; (try k_sweep)))
  (k_with "eval Subscript!" => (k_here; (with_reducible show wpAny _ _ (eval (Expr.Subscript (Expr.Name _ _) (Expr.Constant (Const.str _) _ _) _) _) _ _ _); k_dflt (refine' subName ?F_z ?N_z ?k_z ?x_z ?b_z ?v_z ?p_z ?o_z ?l_z ?_; (case F_z => k_asm); (case N_z => k_asm); (case k_z => rfl); (case x_z => rfl); (case b_z => decide); (case v_z => rfl); (case p_z => k_mem); (case o_z => k_asm); (case l_z => rfl); k_whole)))
  (k_with "execs cons!" => (k_here; (first | (with_reducible refine execs_gen ?_; intro tq') | with_reducible refine wpAny_execs_cons ?_); (try k_fold)))
  (k_with "k_room!" => first | (refine' rm_k ?h_z ?e_z; (case h_z => with_reducible assumption); (case e_z => rfl)) | ((try simp only [depth_under_make, depth_under_kw, depth_in1, depth_deeper, depth_caller]); show _ < 1000; (try dsimp only); omega))
  (k_with "ke_room!" => first | (refine' rm_u ?h_z ?e_z; (case h_z => with_reducible assumption); (case e_z => rfl)) | ((simp only [units_under_make, units_in1, units_deeper, Around.mark_units, units_caller]); show _ < 9900; (try dsimp only); omega))
  (k_with "MY room" => first | (refine' rm_le ?h_z ?e_z; (case h_z => with_reducible assumption); (case e_z => rfl)) | ((try simp only [depth_under_make, depth_under_kw, depth_in1, depth_deeper, depth_caller, units_under_make, units_in1, units_deeper, Around.mark_units, units_caller]); (try dsimp only); omega))
  (k_with "call ref!" => (k_here; (with_reducible show wpAny _ _ (call (Value.ref 723) _) _ _ _); k_dflt (refine' call_scoop ?k1_z ?k2_z ?k3_z ?k4_z ?k5_z ?U_z ?hf_z ?hk_z ?hr_z ?hu_z ?p1_z ?p4_z ?p5_z ?_; (case hf_z => exact rfl); (case hk_z => exact rfl); (case k1_z => k_asm); (case k2_z => k_asm); (case k3_z => k_asm); (case k4_z => k_asm); (case k5_z => k_asm); (case U_z => k_updF); (case hr_z => k_extra "MY room"); (case hu_z => k_extra "MY room"); (case p1_z => k_asm); (case p4_z => omega); (case p5_z => omega); k_whole); intro h' tk' r' tr' a' ta' b' tb' F' N' hr0' hr1' ok'; (try dsimp only at N'); (try k_sweep)))
  (k_with "call ref!" => (k_here; (with_reducible show wpAny _ _ (call (Value.ref 730) _) _ _ _); k_dflt (refine' call_oneSel ?k1_z ?k2_z ?k3_z ?k4_z ?k5_z ?U_z ?hl_z ?hne_z ?hf_z ?hk_z ?hr_z ?hu_z ?p1_z ?p4_z ?p5_z ?p6_z ?_ ?_; (case hf_z => exact rfl); (case hk_z => exact rfl); (case k1_z => k_asm); (case k2_z => k_asm); (case k3_z => k_asm); (case k4_z => k_asm); (case k5_z => k_asm); (case hl_z => k_mem); (case hne_z => k_ne); (case U_z => k_updF); (case hr_z => k_extra "MY room"); (case hu_z => k_extra "MY room"); (case p1_z => k_asm); (case p4_z => exact Nat.le_of_ble_eq_true rfl); (case p5_z => exact Nat.le_of_ble_eq_true rfl); (case p6_z => exact rfl); k_whole); all_goals (intros; rename News _ _ _ _ => N'; (try dsimp only at N'); (try k_sweep))))
  (k_with "MY sub" => first | exact fun _ h => h | (refine sub_cons ?_; k_extra "MY sub"))
  (k_with "MY len" => first | with_reducible assumption | (refine' len_two ?h_z ?g_z ?e_z; (case h_z => assumption); (case g_z => with_reducible assumption); (case e_z => rfl)) | (refine' len_three ?h_z ?g_z ?e_z; (case h_z => assumption); (case g_z => with_reducible assumption); (case e_z => rfl)) | ((try simp only [List.length_append, List.length_cons, List.length_nil] at *); omega))
  (k_with "compareOp NotEq ref ref!" => (k_here; (with_reducible show wpAny _ _ (compareOp CmpOp.NotEq (Value.ref _) (Value.ref _)) _ _ _); k_dflt (first | (refine' ne_nil_cons ?N_z ?a_z ?b_z ?d_z ?s_z ?u_z ?_; (case N_z => k_asm); (case a_z => k_mem); (case b_z => k_mem); (case d_z => k_asm); (case s_z => k_extra "MY sub"); (case u_z => ke_room)) | (refine' ne_nil_nil ?N_z ?a_z ?b_z ?u_z ?_; (case N_z => k_asm); (case a_z => k_mem); (case b_z => k_mem); (case u_z => ke_room)))))
  (k_with "compareOp Eq ref ref!" => (k_here; (with_reducible show wpAny _ _ (compareOp CmpOp.Eq (Value.ref _) (Value.ref _)) _ _ _); k_dflt (first | (refine' eq_nil_cons ?N_z ?a_z ?b_z ?d_z ?s_z ?u_z ?_; (case N_z => k_asm); (case a_z => k_mem); (case b_z => k_mem); (case d_z => k_asm); (case s_z => k_extra "MY sub"); (case u_z => ke_room)) | (refine' eq_nil_nil ?N_z ?a_z ?b_z ?u_z ?_; (case N_z => k_asm); (case a_z => k_mem); (case b_z => k_mem); (case u_z => ke_room)))))
  (k_with "call builtin:list.pop!" => (k_here; k_dflt ((with_reducible show wpAny _ _ (call (Value.builtin _) [Value.ref _, Value.int _ _]) _ _ _); refine' my_pop0 ?F_z ?N_z ?U_z ?z_z ?_; (case F_z => k_asm); (case N_z => k_asm); (case U_z => k_updF); (case z_z => k_extra "MY len")); intro h' F' N'; (try dsimp only at N'); (try k_sweep)))
  (k_with "call builtin:list.append!" => (k_here; k_dflt ((with_reducible show wpAny _ _ (call (Value.builtin _) [Value.ref _, _]) _ _ _); refine' my_append ?F_z ?N_z ?U_z ?z_z ?_; (case F_z => k_asm); (case N_z => k_asm); (case U_z => k_updF); (case z_z => k_extra "MY len")); intro h' F' N'; (try dsimp only at N'); (try simp only [List.nil_append] at N'); (try k_sweep)))
  (k_with "call builtin:len!" => (k_here; (with_reducible show wpAny _ _ (call (Value.builtin "len") [Value.ref _]) _ _ _); k_dflt (refine' my_len ?N_z ?m_z ?z_z ?_; (case N_z => k_asm); (case m_z => k_mem); (case z_z => k_extra "MY len"))))
  (k_with "call ref!" => (k_here; (with_reducible show wpAny _ _ (call (Value.ref 737) _) _ _ _); k_dflt (first | (refine' call_ready_send ?k1_z ?k2_z ?k3_z ?k4_z ?k5_z ?hb_z ?h1_z ?h2_z ?h3_z ?h4_z ?hs_z ?hf_z ?hk_z ?hr_z ?hu_z ?r1_z ?r2_z ?r3_z ?l1_z ?_; (case hf_z => exact rfl); (case hk_z => exact rfl); (case k1_z => k_asm); (case k2_z => k_asm); (case k3_z => k_asm); (case k4_z => k_asm); (case k5_z => k_asm); (case h1_z => k_mem); (case hb_z => k_asm); (case h2_z => k_mem); (case h3_z => k_mem); (case h4_z => k_mem); (case r1_z => k_asm); (case r2_z => k_asm); (case r3_z => k_asm); (case hs_z => k_extra "MY sub"); (case hr_z => k_extra "MY room"); (case hu_z => k_extra "MY room"); (case l1_z => k_extra "MY len"); k_whole) | (refine' call_ready_recv ?k1_z ?k2_z ?k3_z ?k4_z ?k5_z ?hb_z ?h1_z ?h2_z ?h3_z ?h4_z ?hs_z ?hf_z ?hk_z ?hr_z ?hu_z ?r1_z ?r2_z ?r3_z ?l1_z ?_; (case hf_z => exact rfl); (case hk_z => exact rfl); (case k1_z => k_asm); (case k2_z => k_asm); (case k3_z => k_asm); (case k4_z => k_asm); (case k5_z => k_asm); (case h1_z => k_mem); (case hb_z => k_asm); (case h2_z => k_mem); (case h3_z => k_mem); (case h4_z => k_mem); (case r1_z => k_asm); (case r2_z => k_asm); (case r3_z => k_asm); (case hs_z => k_extra "MY sub"); (case hr_z => k_extra "MY room"); (case hu_z => k_extra "MY room"); (case l1_z => k_extra "MY len"); k_whole)); intro h' tk' F' N'; (try k_sweep)))
  (k_with "call ref!" => (k_here; (with_reducible show wpAny _ _ (call (Value.ref 28) _) _ _ _); k_dflt (first | (refine' call_case_send ?k1_z ?k2_z ?k3_z ?k4_z ?k5_z ?h1_z ?h2_z ?h3_z ?h4_z ?h5_z ?h6_z ?hs_z ?hf_z ?hk_z ?hr_z ?hu_z ?r1_z ?r2_z ?r3_z ?l1_z ?_; (case hf_z => exact rfl); (case hk_z => exact rfl); (case k1_z => k_asm); (case k2_z => k_asm); (case k3_z => k_asm); (case k4_z => k_asm); (case k5_z => k_asm); (case h1_z => k_mem); (case h2_z => k_mem); (case h3_z => k_mem); (case h4_z => k_mem); (case h5_z => k_mem); (case h6_z => k_mem); (case r1_z => k_asm); (case r2_z => k_asm); (case r3_z => k_asm); (case hs_z => k_extra "MY sub"); (case hr_z => k_extra "MY room"); (case hu_z => k_extra "MY room"); (case l1_z => k_extra "MY len"); k_whole) | (refine' call_case_recv ?k1_z ?k2_z ?k3_z ?k4_z ?k5_z ?h1_z ?h2_z ?h3_z ?h4_z ?h5_z ?h6_z ?hs_z ?hf_z ?hk_z ?hr_z ?hu_z ?r1_z ?r2_z ?r3_z ?l1_z ?_; (case hf_z => exact rfl); (case hk_z => exact rfl); (case k1_z => k_asm); (case k2_z => k_asm); (case k3_z => k_asm); (case k4_z => k_asm); (case k5_z => k_asm); (case h1_z => k_mem); (case h2_z => k_mem); (case h3_z => k_mem); (case h4_z => k_mem); (case h5_z => k_mem); (case h6_z => k_mem); (case r1_z => k_asm); (case r2_z => k_asm); (case r3_z => k_asm); (case hs_z => k_extra "MY sub"); (case hr_z => k_extra "MY room"); (case hu_z => k_extra "MY room"); (case l1_z => k_extra "MY len"); k_whole)); intro h' tk' F' N'; (try k_sweep)))
  (k_with "k_mem!" => with_reducible assumption)
  (k_with "MY cls" => first | exact cls_dict (by with_reducible assumption) | exact cls_rf | exact cls_ty (by decide) | fail "MY cls")
  (k_with "k_all!" => with_reducible assumption)
  (k_with "k_all!" => (refine' offTup ?N_z ?t_z ?s_z ?m_z ?c_z; (case N_z => k_asm); (case t_z => with_reducible assumption); (case s_z => k_extra "MY sub"); (case m_z => k_mem); (case c_z => k_extra "MY cls")))
  (k_with "eval ListComp!" => (k_here; (with_reducible show wpAny _ _ (eval (Expr.ListComp (Expr.Name _ _) [⟨Expr.Name _ _, _, [Expr.Compare _ [CmpOp.NotEq] _ _], _⟩] _ _) _) _ _ _); k_dflt (refine' filter_comp ?F_z ?N_z ?t_z ?c_z ?d_z ?k1_z ?k2_z ?k3_z ?k4_z ?k5_z ?k6_z ?k7_z ?k8_z ?k9_z ?hh_z ?u_z ?_ ?k10_z; (case F_z => k_asm); (case N_z => k_asm); (case t_z => with_reducible assumption); (case k1_z => with_unfolding_all rfl); (case c_z => k_mem); (case d_z => k_asm); (case k2_z => decide); (case k3_z => rfl); (case k4_z => decide); (case k5_z => rfl); (case k6_z => intro _; rfl); (case k7_z => intro _; rfl); (case k8_z => decide); (case k9_z => decide); (case hh_z => exact rfl); (case u_z => ke_room); (case k10_z => intro _; with_unfolding_all rfl))))
  (k_with "FiltSrc!" => ((rename Fr _ _ _ _ => lF'); (rename News _ _ _ _ => lN'); (refine ⟨_, _, _, _, _, _, rfl, lF', lN', by k_mem, by (first | with_reducible assumption), by (k_extra "MY sub"), by k_mem, by k_asm, by (k_extra "MY len"), ?_⟩); clear lF' lN'; intro h' tk' l' n' F' N' ap'; (try k_sweep)))
  (k_with "ked_read!" => exact sel_reads (by with_reducible assumption))
  (k_with "subscriptTail!" => (k_here; (with_reducible show wpAny _ _ (subscriptTail _ _ (Value.ref _) (Value.int _ _)) _ _ _); k_dflt (refine' item_row ?N_z ?s_z ?m_z ?a_z ?b_z ?c_z ?d_z ?_; (case N_z => k_asm); (case m_z => with_reducible assumption); (case s_z => k_extra "MY sub"); (case a_z => decide); (case b_z => decide); (case c_z => rfl); (case d_z => rfl))))
  (k_with "eval Subscript!" => (k_here; (with_reducible show wpAny _ _ (eval (Expr.Subscript (Expr.Name _ _) (Expr.Constant (Const.int _) _ _) _) _) _ _ _); k_dflt (refine' rowName ?F_z ?N_z ?k_z ?x_z ?b_z ?v_z ?s_z ?m_z ?a_z ?c_z ?d_z ?_; (case F_z => k_asm); (case N_z => k_asm); (case k_z => rfl); (case x_z => rfl); (case b_z => decide); (case v_z => rfl); (case m_z => with_reducible assumption); (case s_z => k_extra "MY sub"); (case a_z => decide); (case c_z => rfl); (case d_z => rfl); k_whole)))
  (k_with "k_memK!" => first | (refine Bef.head ?_; k_memK) | (refine Bef.tail ?_; k_memK))
  (k_with "k_ne!" => (refine neN ?_; (try dsimp only); first | exact Aps.get (by with_reducible assumption) (by k_memK) | exact (Aps.get (by with_reducible assumption) (by k_memK)).symm | exact AllAp.get (by with_reducible assumption) (by k_memK) | exact (AllAp.get (by with_reducible assumption) (by k_memK)).symm | omega))
  (k_with "newTuple!" => (k_here; k_dflt (refine' newTupS ?F_z ?N_z ?z_z ?_; (case F_z => k_asm); (case N_z => k_asm); (case z_z => rfl); k_whole); intro Dq' hq' lq' Fq' Nq'; (try k_sweep)))
  (k_with "newList!" => (k_here; k_dflt (refine' newListS ?F_z ?N_z ?z_z ?_; (case F_z => k_asm); (case N_z => k_asm); (case z_z => rfl); k_whole); intro Dq' hq' lq' Fq' Nq'; (try k_sweep)))
  (k_with "MYM" => with_reducible (first | exact mm0 | exact mm1 | exact mm2 | exact mm3 | exact mm4 | exact mm5 | exact mm6 | exact mm7 | exact mm8 | exact mm9 | exact mm10 | exact mm11 | exact mm12 | exact mm13 | exact mm14 | exact mm15 | exact mm16 | exact mm17 | exact mm18 | exact mm19 | exact mm20 | exact mm21 | exact mm22 | exact mm23 | exact mm24 | exact mm25 | exact mm26 | exact mm27 | exact mm28 | exact mm29 | exact mm30 | exact mm31 | exact mm32 | exact mm33 | exact mm34 | exact mm35 | exact mm36 | exact mm37 | exact mm38 | exact mm39 | exact mm40 | exact mm41 | exact mm42 | exact mm43 | exact mm44 | exact mm45 | exact mm46 | exact mm47))
  (k_with "MYB" => (first | (with_reducible refine bf0 ?_) | (with_reducible refine bg0 ?_) | (with_reducible refine bf1 ?_) | (with_reducible refine bg1 ?_) | (with_reducible refine bf2 ?_) | (with_reducible refine bg2 ?_) | (with_reducible refine bf3 ?_) | (with_reducible refine bg3 ?_) | (with_reducible refine bf4 ?_) | (with_reducible refine bg4 ?_) | (with_reducible refine bf5 ?_) | (with_reducible refine bg5 ?_) | (with_reducible refine bf6 ?_) | (with_reducible refine bg6 ?_) | (with_reducible refine bf7 ?_) | (with_reducible refine bg7 ?_) | (with_reducible refine bf8 ?_) | (with_reducible refine bg8 ?_) | (with_reducible refine bf9 ?_) | (with_reducible refine bg9 ?_) | (with_reducible refine bf10 ?_) | (with_reducible refine bg10 ?_) | (with_reducible refine bf11 ?_) | (with_reducible refine bg11 ?_)); k_extra "MYM")
  (k_with "k_mem!" => k_extra "MYM")
  (k_with "k_all!" => exact ltS_all (by with_reducible assumption))
  (k_with "k_ne!" => (refine neN ?_; (try dsimp only); first | (refine' allLt_ne ?L_z ?M_z; (case L_z => with_reducible assumption); (case M_z => k_extra "MYM")) | (refine' lt_neS ?L_z ?M_z; (case L_z => with_reducible assumption); (case M_z => k_extra "MYM")) | (refine' aps_ne ?A_z ?B_z; (case A_z => with_reducible assumption); (case B_z => k_extra "MYB")) | (refine' lt_ne1 ?L_z ?M_z; (case L_z => with_reducible assumption); (case M_z => k_extra "MYM")) | (refine' lt_neS1 ?L_z ?M_z; (case L_z => with_reducible assumption); (case M_z => k_extra "MYM")) | exact ne_lt (by with_reducible assumption) | exact (ne_lt (by with_reducible assumption)).symm | (refine' allLt_ne2 ?e_z ?L_z ?M_z; (case e_z => with_reducible assumption); (case L_z => with_reducible assumption); (case M_z => k_extra "MYM")) | (refine' (allLt_ne2 ?e_z ?L_z ?M_z).symm; (case e_z => with_reducible assumption); (case L_z => with_reducible assumption); (case M_z => k_extra "MYM")) | exact AllAp.get (by with_reducible assumption) (by k_mem) | exact (AllAp.get (by with_reducible assumption) (by k_mem)).symm | fail "MY ne"))
  (k_with "MY split" => (repeat (rename (_ ∧ _) => hc9; obtain ⟨_, _⟩ := hc9)))
  (k_with "MY lts" => (repeat' (first | with_reducible assumption | exact True.intro | refine And.intro ?_ ?_)))
  (k_with "MY stay" => first | (refine' allk ?a9_z ?b9_z; (case a9_z => first | exact fun _ => News.get (by with_reducible assumption) (by k_mem) | exact fun h => absurd (by k_memK) h); (case b9_z => k_extra "MY stay")) | exact fun q hq _ => (by with_reducible assumption : News _ _ _ _).get ((by k_extra "MY sub" : ∀ p ∈ _, p ∈ _) q hq))
  (k_with "MY now" => first | exact List.forall_mem_nil _ | (refine' allk ?a9_z ?b9_z; (case a9_z => exact News.get (by with_reducible assumption) (by k_mem)); (case b9_z => k_extra "MY now")))
  (k_with "MY made" => first | exact List.forall_mem_nil _ | (refine' allk ?a9_z ?b9_z; (case a9_z => exact ⟨News.get (by with_reducible assumption) (by k_mem), News.fresh (by with_reducible assumption) (by k_mem)⟩); (case b9_z => k_extra "MY made")))
  (k_with "MY aps1" => first | (refine' ltS_ap ?L_z ?s_z; (case L_z => with_reducible assumption); (case s_z => first | exact fun h => h | exact fun h => h.2 | exact fun h => h.2.2 | exact fun h => h.2.2.2 | exact fun h => h.2.2.2.2 | exact fun h => h.2.2.2.2.2 | exact fun h => h.2.2.2.2.2.2 | exact fun h => h.2.2.2.2.2.2.2)) | exact allLt_ap (by k_extra "MY lts"))
  (k_with "MY apart" => first | exact List.forall_mem_nil _ | (refine' allk ?a9_z ?b9_z; (case a9_z => k_extra "MY aps1"); (case b9_z => k_extra "MY apart")))
  (k_with "MY ap" => first | (refine allc ⟨AllAp.get (by with_reducible assumption) (by k_mem), ?_⟩; k_extra "MY ap") | exact fun q hq => AllAp.get (by with_reducible assumption) ((by k_extra "MY sub" : ∀ p ∈ _, p ∈ _) q hq))
  (k_with "call ref!" => (k_here; (with_reducible show wpAny _ _ (call (Value.ref 399) _) _ _ _); k_dflt (first | (refine' call_offerA ?k1_z ?k2_z ?k3_z ?k4_z ?k5_z ?h1_z ?h2_z ?h3_z ?h4_z ?h5_z ?hs_z ?hf_z ?hk_z ?hr_z ?hu_z ?ap_z ?tu_z ?ro_z ?rd_z ?la_z ?as_z ?U_z ?_; (case hf_z => exact rfl); (case hk_z => exact rfl); (case k1_z => k_asm); (case k2_z => k_asm); (case k3_z => k_asm); (case k4_z => k_asm); (case k5_z => k_asm); (case tu_z => with_reducible assumption); (case h1_z => k_mem); (case h2_z => k_mem); (case h3_z => k_mem); (case h4_z => k_mem); (case h5_z => k_mem); (case ro_z => k_mem); (case as_z => with_reducible assumption); (case rd_z => k_asm); (case ap_z => with_reducible assumption); (case hs_z => k_extra "MY sub"); (case hr_z => k_extra "MY room"); (case hu_z => k_extra "MY room"); (case la_z => k_extra "MY len"); (case U_z => k_updF); intro told' e1' e2' e3' u1' u2' u3' h' tk' F' N' ap1' ap2' ap3' ap4'; (try dsimp only at N'); (try k_sweep)) | (refine' call_offerB ?k1_z ?k2_z ?k3_z ?k4_z ?k5_z ?h1_z ?h2_z ?h3_z ?h4_z ?h5_z ?hs_z ?hf_z ?hk_z ?hr_z ?hu_z ?ap_z ?tu_z ?ro_z ?la_z ?lt_z ?U_z ?_; (case hf_z => exact rfl); (case hk_z => exact rfl); (case k1_z => k_asm); (case k2_z => k_asm); (case k3_z => k_asm); (case k4_z => k_asm); (case k5_z => k_asm); (case tu_z => with_reducible assumption); (case h1_z => k_mem); (case h2_z => k_mem); (case h3_z => k_mem); (case h4_z => k_mem); (case h5_z => k_mem); (case ro_z => k_mem); (case ap_z => with_reducible assumption); (case hs_z => k_extra "MY sub"); (case hr_z => k_extra "MY room"); (case hu_z => k_extra "MY room"); (case la_z => k_extra "MY len"); (case lt_z => with_reducible assumption); (case U_z => k_updF); intro told' e1' u1' h' tk' F' N' ap1' ap2'; (try dsimp only at N'); (try k_sweep)) | (refine' call_offerC ?k1_z ?k2_z ?k3_z ?k4_z ?k5_z ?h1_z ?h2_z ?h3_z ?h4_z ?h5_z ?hs_z ?hf_z ?hk_z ?hr_z ?hu_z ?ap_z ?tu_z ?ro_z ?la_z ?lb_z ?lt_z ?U_z ?_; (case hf_z => exact rfl); (case hk_z => exact rfl); (case k1_z => k_asm); (case k2_z => k_asm); (case k3_z => k_asm); (case k4_z => k_asm); (case k5_z => k_asm); (case tu_z => with_reducible assumption); (case h1_z => k_mem); (case h2_z => k_mem); (case h3_z => k_mem); (case h4_z => k_mem); (case h5_z => k_mem); (case ro_z => k_mem); (case ap_z => with_reducible assumption); (case hs_z => k_extra "MY sub"); (case hr_z => k_extra "MY room"); (case hu_z => k_extra "MY room"); (case la_z => k_extra "MY len"); (case lb_z => k_extra "MY len"); (case lt_z => with_reducible assumption); (case U_z => k_updF); intro told' e1' u1' h' tk' F' N' ap1' ap2'; (try dsimp only at N'); (try k_sweep)))))
  (k_with "call ref!" => (k_here; (with_reducible show wpAny _ _ (call (Value.ref 406) _) _ _ _); k_dflt (first | (refine' call_takeA ?k1_z ?k2_z ?k3_z ?k4_z ?k5_z ?h1_z ?h2_z ?h3_z ?h4_z ?h5_z ?hs_z ?hf_z ?hk_z ?hr_z ?hu_z ?ap_z ?tu_z ?rd_z ?re_z ?la_z ?lb_z ?as_z ?U_z ?V_z ?_; (case hf_z => exact rfl); (case hk_z => exact rfl); (case k1_z => k_asm); (case k2_z => k_asm); (case k3_z => k_asm); (case k4_z => k_asm); (case k5_z => k_asm); (case tu_z => with_reducible assumption); (case h1_z => k_mem); (case h2_z => k_mem); (case h3_z => k_mem); (case h4_z => k_mem); (case h5_z => k_mem); (case as_z => with_reducible assumption); (case rd_z => k_asm); (case re_z => k_asm); (case ap_z => with_reducible assumption); (case hs_z => k_extra "MY sub"); (case hr_z => k_extra "MY room"); (case hu_z => k_extra "MY room"); (case la_z => k_extra "MY len"); (case lb_z => k_extra "MY len"); (case U_z => k_updF); (case V_z => (try dsimp only); k_updF); intro told' e1' e2' e3' u1' u2' u3' nt' h' tk' F' N' ap1' ap2' ap3' ap4'; (try dsimp only at N'); (try k_sweep)) | (refine' call_takeB ?k1_z ?k2_z ?k3_z ?k4_z ?k5_z ?h1_z ?h2_z ?h3_z ?h4_z ?h5_z ?hs_z ?hf_z ?hk_z ?hr_z ?hu_z ?ap_z ?tu_z ?rd_z ?la_z ?U_z ?_; (case hf_z => exact rfl); (case hk_z => exact rfl); (case k1_z => k_asm); (case k2_z => k_asm); (case k3_z => k_asm); (case k4_z => k_asm); (case k5_z => k_asm); (case tu_z => with_reducible assumption); (case h1_z => k_mem); (case h2_z => k_mem); (case h3_z => k_mem); (case h4_z => k_mem); (case h5_z => k_mem); (case rd_z => k_asm); (case ap_z => with_reducible assumption); (case hs_z => k_extra "MY sub"); (case hr_z => k_extra "MY room"); (case hu_z => k_extra "MY room"); (case la_z => k_extra "MY len"); (case U_z => k_updF); intro told' e1' u1' nt' h' tk' F' N' ap1' ap2'; (try dsimp only at N'); (try k_sweep)) | (refine' call_takeC ?k1_z ?k2_z ?k3_z ?k4_z ?k5_z ?h1_z ?h2_z ?h3_z ?h4_z ?h5_z ?hs_z ?hf_z ?hk_z ?hr_z ?hu_z ?ap_z ?tu_z ?rd_z ?la_z ?as_z ?U_z ?_; (case hf_z => exact rfl); (case hk_z => exact rfl); (case k1_z => k_asm); (case k2_z => k_asm); (case k3_z => k_asm); (case k4_z => k_asm); (case k5_z => k_asm); (case tu_z => with_reducible assumption); (case h1_z => k_mem); (case h2_z => k_mem); (case h3_z => k_mem); (case h4_z => k_mem); (case h5_z => k_mem); (case as_z => with_reducible assumption); (case rd_z => k_asm); (case ap_z => with_reducible assumption); (case hs_z => k_extra "MY sub"); (case hr_z => k_extra "MY room"); (case hu_z => k_extra "MY room"); (case la_z => k_extra "MY len"); (case U_z => k_updF); intro told' e1' e2' e3' u1' u2' u3' nt' h' tk' F' N' ap1' ap2' ap3' ap4'; (try dsimp only at N'); (try k_sweep)) | (refine' call_takeD ?k1_z ?k2_z ?k3_z ?k4_z ?k5_z ?h1_z ?h2_z ?h3_z ?h4_z ?h5_z ?hs_z ?hf_z ?hk_z ?hr_z ?hu_z ?ap_z ?tu_z ?la_z ?U_z ?_; (case hf_z => exact rfl); (case hk_z => exact rfl); (case k1_z => k_asm); (case k2_z => k_asm); (case k3_z => k_asm); (case k4_z => k_asm); (case k5_z => k_asm); (case tu_z => with_reducible assumption); (case h1_z => k_mem); (case h2_z => k_mem); (case h3_z => k_mem); (case h4_z => k_mem); (case h5_z => k_mem); (case ap_z => with_reducible assumption); (case hs_z => k_extra "MY sub"); (case hr_z => k_extra "MY room"); (case hu_z => k_extra "MY room"); (case la_z => k_extra "MY len"); (case U_z => k_updF); intro told' e1' u1' nt' h' tk' F' N' ap1' ap2'; (try dsimp only at N'); (try k_sweep)))))
  (k_with "call ref!" => (k_here; (with_reducible show wpAny _ _ (call (Value.ref 423) _) _ _ _); k_dflt (refine' call_forget ?k1_z ?k2_z ?k3_z ?k4_z ?k5_z ?h1_z ?h2_z ?h3_z ?h4_z ?h5_z ?hs_z ?hf_z ?hk_z ?hr_z ?hu_z ?ap_z ?tu_z ?rS_z ?rR_z ?la_z ?lb_z ?U_z ?_; (case hf_z => exact rfl); (case hk_z => exact rfl); (case k1_z => k_asm); (case k2_z => k_asm); (case k3_z => k_asm); (case k4_z => k_asm); (case k5_z => k_asm); (case tu_z => with_reducible assumption); (case h1_z => k_mem); (case h2_z => k_mem); (case h3_z => k_mem); (case h4_z => k_mem); (case h5_z => k_mem); (case rS_z => with_reducible assumption); (case rR_z => with_reducible assumption); (case ap_z => with_reducible assumption); (case hs_z => k_extra "MY sub"); (case hr_z => k_extra "MY room"); (case hu_z => k_extra "MY room"); (case la_z => k_extra "MY len"); (case lb_z => k_extra "MY len"); (case U_z => k_updF); intro l1' l2' n1' n2' h' tk' F' N' ap1' ap2' ne'; (try dsimp only at N'); (try k_sweep))))
  (k_with "MY step" => first | (k_unfold; (try dsimp only)) | (k_end; wrow_close) | walk1 | (dsimp only; walk1) | (leave1; walk_say "STEP leave1"; try dsimp only) | fail "no step")
  (k_with "MY sub" => exact fun _ h => List.mem_append_left _ h)
  trivial
/-- turns over a list of the ledger, of any length, by what holds of the rest -/
theorem items_ind {w : World} {A : Around} {E : Value → Shared → Prop} {s : Shared} {env : Env} {h₀ : Heap} {target : PySem.Expr} {body : List Stmt} {Q : Flow → Shared → Prop} {I : Addr} {keep : List (Addr × Obj)} (J : List Value → (Str → Option Value) → List (Addr × Obj) → Prop)
    (turn : ∀ v r m nx h tk oI, J (v :: r) m nx → Fr h₀ env.locals h m → News h₀ env.locals h ((I, oI) :: nx) →
      wpAny (model PR w) A (assign target env v) (fun _ s₂ => wpAny (model PR w) A (execs body env) (UnrPostW h₀ env.locals { s with heap := h, toks := tk } [(I, oI)] (fun m' n' => SubL keep n' ∧ J r m' n') Q) E s₂) E { s with heap := h, toks := tk })
    (done : ∀ m nx h tk, J [] m nx → Fr h₀ env.locals h m → News h₀ env.locals h nx → Q .next { s with heap := h, toks := tk }) :
    ∀ vs m nx, J vs m nx → ItemsRest PR w A E h₀ env target body Q s [(I, "list_iterator")] keep (vs.map .val) m nx := by
  intro vs
  induction vs with
  | nil => exact fun m nx hj h tk F N => done m nx h tk hj F N
  | cons v r ih =>
    intro m nx hj
    refine ItemsRest.val fun h tk F => AllObj.cons fun o _ => AllObj.nil fun N => ?_
    refine wpAny_mono (turn v r m nx h tk o hj F N) (fun _ s₂ h₂ => wpAny_mono h₂ (fun f s₃ h₃ => ?_) fun _ _ e => e) fun _ _ e => e
    have fin : UnrEndW h₀ env.locals { s with heap := h, toks := tk } [(I, o)] (fun m' n' => SubL keep n' ∧ J r m' n') s₃ → UnrEndW h₀ env.locals { s with heap := h, toks := tk } [(I, o)] (fun m' n' => SubL keep n' ∧ ItemsRest PR w A E h₀ env target body Q s [(I, "list_iterator")] keep (r.map .val) m' n') s₃ := by
      rintro ⟨h', tk', m', n', e, F', N', off, k, hJ⟩
      exact ⟨h', tk', m', n', e, F', N', off, k, ih m' n' hJ⟩
    cases f with
    | ret v => exact h₃
    | brk => exact h₃
    | next => exact fin h₃
    | cont => exact fin h₃

def oSel : Value → Option Int
  | .int i _ => some i
  | _ => none
def oD : Option Int → Dat
  | some i => .int i
  | none => .none
theorem oD_sel {v : Value} (h : isSel v = true) : oD (oSel v) = oDat v := by
  rcases isSel_or h with rfl | ⟨i, t, rfl⟩ <;> rfl
theorem oD_inj {a b : Option Int} (h : oD a = oD b) : a = b := by
  cases a <;> cases b <;> first | rfl | (cases h; rfl) | cases h
/-- a pair of a row of four and a datum -/
def IsPair (tl : List (Addr × Obj)) (v : Value) (ds : Dat × Option Int) : Prop :=
  ∃ p a wv x1 x2 x3 sv n n' d1 d2 d3 dw, v = .ref p ∧ (p, tupOf #[.ref a, wv] n) ∈ tl ∧ (a, tupOf #[x1, x2, x3, sv] n') ∈ tl ∧ isSel sv = true ∧ DatIn tl x1 d1 ∧ DatIn tl x2 d2 ∧ DatIn tl x3 d3 ∧ DatIn tl wv dw ∧
    ds.1 = .tuple [.tuple [d1, d2, d3, oDat sv], dw] ∧ ds.2 = oSel sv ∧ kqdOk 6 d1 = true ∧ kqdOk 6 d2 = true ∧ kqdOk 6 d3 = true ∧ kqdOk 6 dw = true
theorem IsPair.mono {tl tl' : List (Addr × Obj)} {v : Value} {ds : Dat × Option Int} (h : IsPair tl v ds) (hs : ∀ p ∈ tl, p ∈ tl') : IsPair tl' v ds := by
  obtain ⟨p, a, wv, x1, x2, x3, sv, n, n', d1, d2, d3, dw, e, h1, h2, h3, h4, h5, h6, h7, h8⟩ := h
  exact ⟨p, a, wv, x1, x2, x3, sv, n, n', d1, d2, d3, dw, e, hs _ h1, hs _ h2, h3, h4.mono hs, h5.mono hs, h6.mono hs, h7.mono hs, h8⟩

def stepK (st : List Dat × List (Option Int)) (x : Dat × Option Int) : List Dat × List (Option Int) :=
  if x.2 = none ∨ x.2 ∉ st.2 then (st.1 ++ [x.1], st.2 ++ [x.2]) else st
def stepL (st : List Dat × List (Option Int)) (x : Dat × Option Int) : List Dat × List (Option Int) :=
  (if x.2 = none ∨ x.2 ∉ st.2 then st.1 ++ [x.1] else st.1, st.2 ++ [x.2])
def onceK (gs : List (Dat × Option Int)) : List Dat × List (Option Int) := gs.foldl stepK ([], [])
def onceL (gs : List (Dat × Option Int)) : List Dat × List (Option Int) := gs.foldl stepL ([], [])
theorem onceK_snoc (gs : List (Dat × Option Int)) (x : Dat × Option Int) : onceK (gs ++ [x]) = stepK (onceK gs) x := by simp [onceK]
theorem onceL_snoc (gs : List (Dat × Option Int)) (x : Dat × Option Int) : onceL (gs ++ [x]) = stepL (onceL gs) x := by simp [onceL]
theorem once_both {k l : List Dat × List (Option Int)} (h1 : k.1 = l.1) (h2 : ∀ i : Int, some i ∈ k.2 ↔ some i ∈ l.2) : ∀ gs : List (Dat × Option Int), (gs.foldl stepK k).1 = (gs.foldl stepL l).1
  | [] => h1
  | x :: gs => by
    show (gs.foldl stepK (stepK k x)).1 = (gs.foldl stepL (stepL l x)).1
    obtain ⟨d, s⟩ := x
    have key : (s = none ∨ s ∉ k.2) ↔ (s = none ∨ s ∉ l.2) := by
      cases s with
      | none => simp
      | some i => simp [h2 i]
    refine once_both ?_ ?_ gs
    · unfold stepK stepL
      by_cases q : s = none ∨ s ∉ k.2
      · rw [if_pos q]; dsimp only; rw [if_pos (key.mp q), h1]
      · rw [if_neg q]; dsimp only; rw [if_neg (fun z => q (key.mpr z)), h1]
    · intro i
      unfold stepK stepL
      by_cases q : s = none ∨ s ∉ k.2
      · rw [if_pos q]; simp [h2 i]
      · rw [if_neg q]
        dsimp only
        rw [h2 i, List.mem_append, List.mem_singleton]
        refine ⟨.inl, fun z => ?_⟩
        rcases z with z | z
        · exact z
        · subst z
          exact (h2 i).mp (Decidable.byContradiction fun z => q (.inr z))
theorem once_eq (gs : List (Dat × Option Int)) : (onceK gs).1 = (onceL gs).1 := once_both rfl (fun _ => Iff.rfl) gs

/-- a list of selects -/
def SelAll (vs : List Value) (ss : List (Option Int)) : Prop := Paired (fun v s => isSel v = true ∧ oSel v = s) vs ss
theorem SelAll.dat {vs : List Value} {ss : List (Option Int)} (h : SelAll vs ss) : DatAll [] vs (ss.map oD) := by
  induction h with
  | nil => exact .nil
  | cons h _ ih =>
    obtain ⟨h1, rfl⟩ := h
    exact .cons (by rw [oD_sel h1]; exact sel_dat h1) ih
theorem oD_ok (s : Option Int) (n : Nat) : kqdOk n (oD s) = true := by cases s <;> cases n <;> rfl
theorem notin_sel {w : World} {A : Around} {E : Value → Shared → Prop} {s : Shared} {g : Heap} {L a : Addr} {news : List (Addr × Obj)} {v : Value} {vs : List Value} {ss : List (Option Int)} {n : Nat} {Q : Value → Shared → Prop}
    (N : News g L s.heap news) (ma : (a, listOf vs.toArray n) ∈ news) (hs : isSel v = true) (hv : SelAll vs ss) (hu : A.units + 64 < cLine)
    (h1 : oSel v ∉ ss → Q (.bool true) s) (h2 : oSel v ∈ ss → Q (.bool false) s) : wpAny (model PR w) A (compareOp .NotIn v (.ref a)) Q E s := by
  refine kqd_notIn N ma rfl rfl hv.dat (List.forall_mem_nil _) (sel_dat (tl := []) hs) (List.forall_mem_nil _) ?_ (sel_ok hs 8) hu ?_
  · intro d hd
    obtain ⟨x, _, rfl⟩ := List.mem_map.mp hd
    exact oD_ok x 8
  · have e : oDat v ∈ ss.map oD ↔ oSel v ∈ ss := by
      rw [← oD_sel hs]
      refine ⟨fun z => ?_, fun z => List.mem_map.mpr ⟨_, z, rfl⟩⟩
      obtain ⟨x, hx, e⟩ := List.mem_map.mp z
      rw [← oD_inj e]; exact hx
    by_cases q : oSel v ∈ ss
    · have z := e.mpr q
      simp only [z, decide_true, Bool.not_true]
      exact h2 q
    · have z : ¬ oDat v ∈ ss.map oD := fun z => q (e.mp z)
      simp only [z, decide_false, Bool.not_false]
      exact h1 q
theorem is_sel {M : Model} {A : Around} {E : Value → Shared → Prop} {s : Shared} {v : Value} {Q : Value → Shared → Prop} (hs : isSel v = true) (h0 : v = .none → Q (.bool true) s) (h1 : v ≠ .none → Q (.bool false) s) :
    wpAny M A (compareOp .Is v .none) Q E s := by
  rcases isSel_or hs with rfl | ⟨i, t, rfl⟩
  · exact is_none_none (h0 rfl)
  · exact is_int_none (h1 nofun)
theorem sel_none {v : Value} (hs : isSel v = true) : oSel v = none ↔ v = .none := by
  rcases isSel_or hs with rfl | ⟨i, t, rfl⟩
  · exact ⟨fun _ => rfl, fun _ => rfl⟩
  · exact ⟨fun z => (nomatch z), fun z => (nomatch z)⟩

end
section
example : True := by
  w_top off
  trivial
theorem mem_swap5 {i f m r d : Addr × Obj} {rest : List (Addr × Obj)} : ∀ p ∈ i :: f :: m :: r :: d :: rest, p ∈ d :: i :: f :: m :: r :: rest := by
  intro p hp
  simp only [List.mem_cons] at hp ⊢
  rcases hp with h | h | h | h | h | h <;> simp [h]
theorem once_sub {f m r : Addr × Obj} {ex tl : List (Addr × Obj)} : ∀ p ∈ f :: (ex ++ r :: tl), p ∈ f :: m :: r :: (ex ++ tl) := by
  intro p hp
  simp only [List.mem_cons, List.mem_append] at hp ⊢
  rcases hp with h | h | h | h <;> simp [h]
theorem once_newsG {g h : Heap} {L : Addr} {f m r : Addr × Obj} {ex tl : List (Addr × Obj)} (N : News g L h (f :: m :: r :: (ex ++ tl))) : NewsG g h (f :: (ex ++ r :: tl)) :=
  fun p hp => ⟨(N p (once_sub p hp)).1, (N p (once_sub p hp)).2.2⟩
def OnceJ (fl ml rl I : Addr) (rowsV : List Value) (n : Nat) (tl : List (Addr × Obj)) (gs : List (Dat × Option Int)) (rest : List Value) (m : Str → Option Value) (nx : List (Addr × Obj)) : Prop :=
  ∃ gpre grest fV mV nf nm ex, Paired (IsPair tl) rest grest ∧ gs = gpre ++ grest ∧ nx = (fl, listOf fV.toArray nf) :: (ml, listOf mV.toArray nm) :: (rl, listOf rowsV.toArray n) :: (ex ++ tl) ∧ TupLed (ex ++ tl) ∧ (∀ p ∈ ex, p.1 ≠ I) ∧
    DatAll (ex ++ tl) fV (onceK gpre).1 ∧ SelAll mV (onceK gpre).2 ∧ fV.length ≤ gpre.length ∧ mV.length ≤ gpre.length ∧ m (Str.ofString "found") = some (.ref fl) ∧ m (Str.ofString "met") = some (.ref ml)
def OncePost (mu : List (Addr × Obj)) (gs : List (Dat × Option Int)) (g' : Heap) (v : Value) (h' : Heap) : Prop :=
  ∃ fl fV nf ex, v = .ref fl ∧ NewsG g' h' ((fl, listOf fV.toArray nf) :: (ex ++ mu)) ∧ DatAll (ex ++ mu) fV (onceK gs).1
section
variable {w : World} {A : Around} {E : Value → Shared → Prop} {s : Shared} {env : Env} {g : Heap} {target : PySem.Expr} {body : List Stmt} {Q : Flow → Shared → Prop} {fl ml rl : Addr} {rowsV : List Value} {n nf₀ nm₀ : Nat} {m₀ : Str → Option Value} {news tl : List (Addr × Obj)} {gs : List (Dat × Option Int)}
theorem once_iter (hh : A.handled = none) (F : Fr g env.locals s.heap m₀) (N : News g env.locals s.heap news) (e1 : m₀ (Str.ofString "found") = some (.ref fl)) (e2 : m₀ (Str.ofString "met") = some (.ref ml))
    (hrl : (rl, listOf rowsV.toArray n) ∈ news) (hfl : (fl, listOf #[] nf₀) ∈ news) (hml : (ml, listOf #[] nm₀) ∈ news) (htl : ∀ p ∈ tl, p ∈ news) (hp : Paired (IsPair tl) rowsV gs) (tup : TupLed tl) (n1 : fl ≠ ml) (n2 : fl ≠ rl) (n3 : ml ≠ rl)
    (turn : ∀ I oI v r (m : Str → Option Value) h tk gpre x grest fV mV nf nm ex, IsPair tl v x → Paired (IsPair tl) r grest → gs = gpre ++ x :: grest → TupLed (ex ++ tl) → (∀ p ∈ ex ++ tl, p.1 ≠ fl) → (∀ p ∈ ex ++ tl, p.1 ≠ ml) → (∀ p ∈ ex ++ tl, p.1 ≠ I) → Aps [I, fl, ml, rl] →
      DatAll (ex ++ tl) fV (onceK gpre).1 → SelAll mV (onceK gpre).2 → fV.length ≤ gpre.length → mV.length ≤ gpre.length →
      Fr g env.locals h (fun y => if y = Str.ofString "found" then some (.ref fl) else if y = Str.ofString "met" then some (.ref ml) else m y) → News g env.locals h ((I, oI) :: (fl, listOf fV.toArray nf) :: (ml, listOf mV.toArray nm) :: (rl, listOf rowsV.toArray n) :: (ex ++ tl)) →
      wpAny (model PR w) A (assign target env v) (fun _ s₂ => wpAny (model PR w) A (execs body env) (UnrPostW g env.locals { s with heap := h, toks := tk } [(I, oI)] (fun m' n' => SubL [(rl, listOf rowsV.toArray n)] n' ∧ OnceJ fl ml rl I rowsV n tl gs r m' n') Q) E s₂) E { s with heap := h, toks := tk })
    (done : ∀ (m : Str → Option Value) h tk (fV mV : List Value) nf nm ex, DatAll (ex ++ tl) fV (onceK gs).1 → Fr g env.locals h (fun y => if y = Str.ofString "found" then some (.ref fl) else if y = Str.ofString "met" then some (.ref ml) else m y) → News g env.locals h ((fl, listOf fV.toArray nf) :: (ml, listOf mV.toArray nm) :: (rl, listOf rowsV.toArray n) :: (ex ++ tl)) → Q .next { s with heap := h, toks := tk }) :
    wpAny (model PR w) A (pyIter (.ref rl)) (fun it s₂ => TurnsAt PR w A g env target body Q E it s₂) E s := by
  have chain : ∀ m : Str → Option Value, m (Str.ofString "found") = some (.ref fl) → m (Str.ofString "met") = some (.ref ml) → (fun y => if y = Str.ofString "found" then some (.ref fl) else if y = Str.ofString "met" then some (.ref ml) else m y) = m := by
    intro m h1 h2
    funext y
    split
    · rename_i q; rw [q, h1]
    · split
      · rename_i q; rw [q, h2]
      · rfl
  have hsub : ∀ p ∈ (fl, listOf #[] nf₀) :: (ml, listOf #[] nm₀) :: (rl, listOf rowsV.toArray n) :: tl, p ∈ news :=
    allc ⟨hfl, allc ⟨hml, allc ⟨hrl, htl⟩⟩⟩
  have N₀ : News g env.locals s.heap ((fl, listOf #[] nf₀) :: (ml, listOf #[] nm₀) :: (rl, listOf rowsV.toArray n) :: tl) := fun p hp => N p (hsub p hp)
  refine iter_listTurns (lo := listOf rowsV.toArray n) (vs := rowsV) (n := n) hh F N₀ (.tail _ (.tail _ (.head _))) rfl rfl fun I hI => ?_
  have i1 : fl ≠ I := Nat.ne_of_lt (hI _ (.head _))
  have i2 : ml ≠ I := Nat.ne_of_lt (hI _ (.tail _ (.head _)))
  have i3 : rl ≠ I := Nat.ne_of_lt (hI _ (.tail _ (.tail _ (.head _))))
  have itl : ∀ p ∈ tl, p.1 ≠ I := fun p hp => Nat.ne_of_lt (hI _ (.tail _ (.tail _ (.tail _ hp))))
  have aps : Aps [I, fl, ml, rl] := by
    simp only [Aps, List.forall_mem_cons, List.not_mem_nil, false_imp_iff, implies_true, and_true]
    exact ⟨⟨⟨i1.symm⟩, ⟨i2.symm⟩, ⟨i3.symm⟩⟩, ⟨⟨n1⟩, ⟨n2⟩⟩, ⟨n3⟩⟩
  refine items_ind (OnceJ fl ml rl I rowsV n tl gs) ?_ ?_ rowsV m₀ _ ⟨[], gs, [], [], nf₀, nm₀, [], hp, rfl, rfl, tup, List.forall_mem_nil _, .nil, .nil, Nat.le_refl _, Nat.le_refl _, e1, e2⟩
  · rintro v r m nx h tk oI ⟨gpre, grest, fV, mV, nf, nm, ex, hpr, hgs, rfl, htup, hexI, hd, hs, l1, l2, f1, f2⟩ F₁ N₁
    cases hpr with
    | cons hv hr =>
      have N₂ : News g env.locals h ((fl, listOf fV.toArray nf) :: (ml, listOf mV.toArray nm) :: (rl, listOf rowsV.toArray n) :: (ex ++ tl)) := fun p hp => N₁ p (.tail _ hp)
      have hne : ∀ {d : Addr} {o : Obj}, (d, o) ∈ (fl, listOf fV.toArray nf) :: (ml, listOf mV.toArray nm) :: (rl, listOf rowsV.toArray n) :: (ex ++ tl) → o.cls = .type "list" → ∀ p ∈ ex ++ tl, p.1 ≠ d := fun hm hc =>
        offTup N₂ htup (fun p hp => .tail _ (.tail _ (.tail _ hp))) hm (by rw [hc]; exact cls_ty (by decide))
      refine turn I oI v r m h tk gpre _ _ fV mV nf nm ex hv hr hgs htup (hne (.head _) rfl) (hne (.tail _ (.head _)) rfl) (fun p hp => ?_) aps hd hs l1 l2 (by rw [chain m f1 f2]; exact F₁) N₁
      rcases List.mem_append.mp hp with q | q
      · exact hexI p q
      · exact itl p q
  · rintro m nx h tk ⟨gpre, grest, fV, mV, nf, nm, ex, hpr, hgs, rfl, htup, hexI, hd, hs, l1, l2, f1, f2⟩ F₁ N₁
    cases hpr
    rw [List.append_nil] at hgs
    subst hgs
    exact done m h tk fV mV nf nm ex hd (by rw [chain m f1 f2]; exact F₁) N₁

theorem once_end {I D a : Addr} {oI : Obj} {wv sv : Value} {r : List Value} {h h' : Heap} {tk tk' : Nat} {gpre grest : List (Dat × Option Int)} {x : Dat × Option Int} {fV mV : List Value} {nf nm : Nat} {ex : List (Addr × Obj)} {m' : Str → Option Value} {L : Addr} {nD : Nat} {x1 x2 x3 : Value} {n' : Nat} {d1 d2 d3 dw : Dat}
    (hr : Paired (IsPair tl) r grest) (hgs : gs = gpre ++ x :: grest) (htup : TupLed (ex ++ tl)) (hI : ∀ p ∈ ex ++ tl, p.1 ≠ I) (aps : Aps [I, fl, ml, rl]) (hd : DatAll (ex ++ tl) fV (onceK gpre).1) (hs : SelAll mV (onceK gpre).2) (l1 : fV.length ≤ gpre.length) (l2 : mV.length ≤ gpre.length)
    (ha : (a, tupOf #[x1, x2, x3, sv] n') ∈ tl) (hsel : isSel sv = true) (c1 : DatIn tl x1 d1) (c2 : DatIn tl x2 d2) (c3 : DatIn tl x3 d3) (cw : DatIn tl wv dw) (ed : x.1 = .tuple [.tuple [d1, d2, d3, oDat sv], dw]) (es : x.2 = oSel sv)
    (hc : oSel sv = none ∨ oSel sv ∉ (onceK gpre).2)
    (F : Fr g L h' m') (N : News g L h' ((D, tupOf #[.ref a, wv] nD) :: (I, oI) :: (fl, listOf (fV ++ [Value.ref D]).toArray nf) :: (ml, listOf (mV ++ [sv]).toArray nm) :: (rl, listOf rowsV.toArray n) :: (ex ++ tl))) (hDI : D ≠ I)
    (f1 : m' (Str.ofString "found") = some (.ref fl)) (f2 : m' (Str.ofString "met") = some (.ref ml)) :
    UnrEndW g L { s with heap := h, toks := tk } [(I, oI)] (fun m' n' => SubL [(rl, listOf rowsV.toArray n)] n' ∧ OnceJ fl ml rl I rowsV n tl gs r m' n') { s with heap := h', toks := tk' } := by
  have eK : onceK (gpre ++ [x]) = ((onceK gpre).1 ++ [x.1], (onceK gpre).2 ++ [x.2]) := by
    rw [onceK_snoc, stepK, if_pos (by rw [es]; exact hc)]
  refine ⟨h', tk', m', (fl, listOf (fV ++ [Value.ref D]).toArray nf) :: (ml, listOf (mV ++ [sv]).toArray nm) :: (rl, listOf rowsV.toArray n) :: ((D, tupOf #[.ref a, wv] nD) :: ex ++ tl), rfl, F, fun p hp => N p (mem_swap5 p hp), ?_, ⟨.tail _ (.tail _ (.head _)), trivial⟩,
    gpre ++ [x], grest, fV ++ [Value.ref D], mV ++ [sv], nf, nm, (D, tupOf #[.ref a, wv] nD) :: ex, hr, by rw [hgs]; simp, rfl, htup.cons, ?_, ?_, ?_, by simpa using l1, by simpa using l2, f1, f2⟩
  · intro p hp q hq
    rw [List.mem_singleton.mp hq]
    rcases List.mem_cons.mp hp with rfl | hp
    · exact (Aps.get aps (.head (.head _))).symm
    rcases List.mem_cons.mp hp with rfl | hp
    · exact (Aps.get aps (.head (.tail _ (.head _)))).symm
    rcases List.mem_cons.mp hp with rfl | hp
    · exact (Aps.get aps (.head (.tail _ (.tail _ (.head _))))).symm
    rcases List.mem_cons.mp hp with rfl | hp
    · exact hDI
    · exact hI p hp
  · intro p hp
    rcases List.mem_cons.mp hp with rfl | hp
    · exact hDI
    · exact hI p (List.mem_append_left _ hp)
  · rw [eK]
    have up : ∀ p ∈ ex ++ tl, p ∈ (D, tupOf #[.ref a, wv] nD) :: ex ++ tl := fun p hp => .tail _ hp
    have ut : ∀ p ∈ tl, p ∈ (D, tupOf #[.ref a, wv] nD) :: ex ++ tl := fun p hp => .tail _ (List.mem_append_right _ hp)
    refine (hd.mono up).append (.one ?_)
    rw [ed]
    exact .tuple (vs := [Value.ref a, wv]) (.head _) (.cons (.tuple (vs := [x1, x2, x3, sv]) (ut _ ha) (.cons (c1.mono ut) (.cons (c2.mono ut) (.cons (c3.mono ut) (.cons (sel_dat hsel) .nil))))) (.cons (cw.mono ut) .nil))
  · rw [eK]
    exact hs.snoc ⟨hsel, es.symm⟩

theorem once_skip {I : Addr} {oI : Obj} {sv : Value} {r : List Value} {h h' : Heap} {tk tk' : Nat} {gpre grest : List (Dat × Option Int)} {x : Dat × Option Int} {fV mV : List Value} {nf nm : Nat} {ex : List (Addr × Obj)} {m' : Str → Option Value} {L : Addr}
    (hr : Paired (IsPair tl) r grest) (hgs : gs = gpre ++ x :: grest) (htup : TupLed (ex ++ tl)) (hI : ∀ p ∈ ex ++ tl, p.1 ≠ I) (aps : Aps [I, fl, ml, rl]) (hd : DatAll (ex ++ tl) fV (onceK gpre).1) (hs : SelAll mV (onceK gpre).2) (l1 : fV.length ≤ gpre.length) (l2 : mV.length ≤ gpre.length)
    (hsel : isSel sv = true) (es : x.2 = oSel sv) (hv : sv ≠ .none) (hc : oSel sv ∈ (onceK gpre).2)
    (F : Fr g L h' m') (N : News g L h' ((I, oI) :: (fl, listOf fV.toArray nf) :: (ml, listOf mV.toArray nm) :: (rl, listOf rowsV.toArray n) :: (ex ++ tl)))
    (f1 : m' (Str.ofString "found") = some (.ref fl)) (f2 : m' (Str.ofString "met") = some (.ref ml)) :
    UnrEndW g L { s with heap := h, toks := tk } [(I, oI)] (fun m' n' => SubL [(rl, listOf rowsV.toArray n)] n' ∧ OnceJ fl ml rl I rowsV n tl gs r m' n') { s with heap := h', toks := tk' } := by
  have eK : onceK (gpre ++ [x]) = onceK gpre := by
    rw [onceK_snoc, stepK, if_neg]
    rw [es]
    rintro (q | q)
    · exact hv ((sel_none hsel).mp q)
    · exact q hc
  refine ⟨h', tk', m', (fl, listOf fV.toArray nf) :: (ml, listOf mV.toArray nm) :: (rl, listOf rowsV.toArray n) :: (ex ++ tl), rfl, F, N, ?_, ⟨.tail _ (.tail _ (.head _)), trivial⟩,
    gpre ++ [x], grest, fV, mV, nf, nm, ex, hr, by rw [hgs]; simp, rfl, htup, fun p hp => hI p (List.mem_append_left _ hp), by rw [eK]; exact hd, by rw [eK]; exact hs, by simpa using Nat.le_succ_of_le l1, by simpa using Nat.le_succ_of_le l2, f1, f2⟩
  intro p hp q hq
  rw [List.mem_singleton.mp hq]
  rcases List.mem_cons.mp hp with rfl | hp
  · exact (Aps.get aps (.head (.head _))).symm
  rcases List.mem_cons.mp hp with rfl | hp
  · exact (Aps.get aps (.head (.tail _ (.head _)))).symm
  rcases List.mem_cons.mp hp with rfl | hp
  · exact (Aps.get aps (.head (.tail _ (.tail _ (.head _))))).symm
  · exact hI p hp
end
example : True := by
  (k_with "k_mem!" => (refine List.mem_append_right _ ?_; with_reducible assumption))
  (k_with "MY sub" => exact fun _ h => List.mem_append_right _ h)
  (k_with "exec For Tuple Name cons nil!" => (k_here; (rename Fr _ _ _ _ => lF'); (with_unfolding_all refine' For_turns lF' ?_; k_whole)))
  (k_with "compareOp Is!" => (k_here; (with_reducible show wpAny _ _ (compareOp CmpOp.Is _ Value.none) _ _ _); k_dflt (refine' is_sel ?a_z ?_ ?_; (case a_z => with_reducible assumption); (focus (intro e')); rotate_left; (focus (intro e')); rotate_left)))
  (k_with "compareOp NotIn!" => (k_here; (with_reducible show wpAny _ _ (compareOp CmpOp.NotIn _ (Value.ref _)) _ _ _); k_dflt (refine' notin_sel ?N_z ?ma_z ?hs_z ?hv_z ?hu_z ?_ ?_; (case N_z => k_asm); (case ma_z => k_mem); (case hs_z => with_reducible assumption); (case hv_z => k_asm); (case hu_z => ke_room); (focus (intro e')); rotate_left; (focus (intro e')); rotate_left)))
  trivial
set_option rowWalk.seconds 0 in
set_option maxRecDepth 100000 in
set_option maxHeartbeats 8000000 in
theorem once_spec {w : World} {mean : ExcName → Option Value} {mg mb : Str → Option Value} {dp un : Nat} {gd : Option (List Code)} {base g : Heap} {fs : List Env} {s : Shared}
    {rl : Addr} {rowsV : List Value} {n : Nat} {gs : List (Dat × Option Int)} {tl : List (Addr × Obj)} (G : Gd w mean mg mb ⟨none, dp, some fs, gd, un⟩ base fs g) (hx : Ext g s.heap)
    (hroom : dp ≤ 900) (hun : un ≤ 8500) (hp : Paired (IsPair tl) rowsV gs) (hlen : gs.length ≤ 100) (tup : TupLed tl)
    (N : NewsG g s.heap ((rl, listOf rowsV.toArray n) :: tl)) :
    codeAny (model PR w) ⟨none, dp, some fs, gd, un⟩ (.call (.ref 364) ⟨[.ref rl], []⟩) (Done s g (OncePost ((rl, listOf rowsV.toArray n) :: tl) gs g)) s := by
  refine unbx ?_
  simp (discharger := (k_dflt (
      refine' enterG (binds := [(Str.ofString "rows", .ref rl)]) G hx N ?k6 ?k7 ?k8 ?k9 ?kB ?_ ?c2 ?c3 ?c4 ?c5
      case k6 => k_is
      case k7 => k_is
      case k8 => exact Nat.lt_of_le_of_lt hroom (by decide)
      case k9 => exact BindsTo.of_eq rfl
      case kB => exact locs rfl
      case c2 => exact rfl
      case c3 => exact rfl
      case c4 => exact rfl
      case c5 => decide
      intro L' h' F' N'
      have B' := G.B
      have X' := G.X
      have T' := G.T
      clear N hx
      try dsimp only
      (try k_fold)
      repeat' ((fail_if_success (with_reducible show wpAny _ _ (pyIter _) _ _ _)); k_extra "MY step")
      rename Fr _ _ _ _ => F9
      rename News _ _ _ _ => N9
      refine' once_iter ?hh F9 N9 ?e1 ?e2 ?hrl ?hfl ?hml ?htl hp tup ?n1 ?n2 ?n3 ?turn ?done
      case e1 => exact rfl
      case e2 => exact rfl
      case hh => exact rfl
      case hrl => k_mem
      case hfl => k_mem
      case hml => k_mem
      case htl => k_extra "MY sub"
      case n1 => k_ne
      case n2 => k_ne
      case n3 => k_ne
      case turn =>
        intro I oI v r m h tk gpre x grest fV mV nf nm ex hv hr hgs htup offF offM offI aps hd hs l1 l2 F10 N10
        clear F9 N9
        have hv' := hv
        obtain ⟨p, a, wv, x1, x2, x3, sv, n1, n2, d1, d2, d3, dw, rfl, hm1, hm2, hsel, c1, c2, c3, cw, ed, es, _⟩ := hv'
        have hle : gpre.length ≤ 100 := by
          rw [hgs, List.length_append] at hlen; omega
        have l1' : fV.length ≤ 1000 := by omega
        have l2' : mV.length ≤ 1000 := by omega
        repeat' ((fail_if_success (with_reducible show UnrEndW _ _ _ _ _ _)); k_extra "MY step")
        all_goals (rename Fr _ _ _ _ => F9; rename News _ _ _ _ => N9)
        all_goals first
          | exact once_skip hr hgs htup offI aps hd hs l1 l2 hsel es (by assumption) (by assumption) F9 N9 rfl rfl
          | exact once_end hr hgs htup offI aps hd hs l1 l2 hm2 hsel c1 c2 c3 cw ed es (by first | exact .inr (by assumption) | exact .inl ((sel_none hsel).mpr (by assumption))) F9 N9 (by k_ne) rfl rfl
      case done =>
        intro m h tk fV mV nf nm ex hd F10 N10
        clear F9 N9
        repeat' (k_extra "MY step")
        all_goals (try dsimp only)
        rename Fr _ _ _ _ => F9
        rename News _ _ _ _ => N9
        exact Done.of F9 ⟨_, fV, nf, ex, rfl, once_newsG N9, hd.mono fun p hp => (List.mem_append.mp hp).elim (fun q => List.mem_append_left _ q) fun q => List.mem_append_right _ (.tail _ q)⟩))) only [↓bx]

end
section
example : True := by
  w_top off
  k_with_none
  (k_with "ite!" => with_reducible (first | refine itT ?_ | refine itF ?_ | refine itNT ?_ | refine itNF ?_))
  (k_with "subscriptTail Name Constant ref str!" => (k_here; k_dflt (refine' itemN (knd := PySem.strKind _ _) ?N_z ?m_z ?d_z (strKind_is _ _ _ _) ?r_z ?_ ?s_z ?g_z; (case N_z => k_asm); (case m_z => k_mem); (case d_z => k_asm); (case r_z => rfl); (case s_z => with_unfolding_all rfl); (case g_z => (intro _; with_unfolding_all rfl)))))
  (k_with "subscriptTail Name Constant ref int!" => (k_here; first | k_extra "subscriptTail!" | k_dflt (refine' item_tupleT ?t_z ?a_z ?b_z ?c_z ?d_z ?_; (case t_z => exact News.isTup (by k_asm) (by k_mem)); (case a_z => decide); (case b_z => decide); (case c_z => rfl); (case d_z => rfl); k_whole)))
  (k_with "eval Name!" => (k_here; k_dflt (refine' nameX_L ?F_z ?v_z ?_ ?a_z ?b_z; (case F_z => k_asm); (case a_z => rfl); (case b_z => rfl); (case v_z => rfl); k_whole)))
  (k_with "exec Assign!" => ((with_reducible show wpAny _ _ (exec (Stmt.Assign [Expr.Name _ _] _ _) _) _ _ _); with_reducible refine wpAny_Assign_Name ?_))
  (k_with "MY rd" => first | exact RdArgs.nil | (refine' RdArgs.name ?x_z ?d_z ?v_z ?r_z; (case x_z => rfl); (case d_z => decide); (case v_z => rfl); (case r_z => k_extra "MY rd")) | (refine' RdArgs.str ?r_z; (case r_z => k_extra "MY rd")) | (refine' RdArgs.int ?r_z; (case r_z => k_extra "MY rd")) | (refine' RdArgs.bool ?r_z; (case r_z => k_extra "MY rd")) | (refine' RdArgs.non ?r_z; (case r_z => k_extra "MY rd")))
  (k_with "spliced!" => (k_here; (first | with_reducible show wpAny _ _ (spliced (backTo _ (starEach (Expr.Name _ _ :: _) _))) _ _ _ | with_reducible show wpAny _ _ (spliced (backTo _ (starEach (Expr.Constant _ _ _ :: _) _))) _ _ _); k_dflt (refine' args_rd ?F_z ?k_z ?r_z ?_; (case F_z => k_asm); (case k_z => rfl); (case r_z => k_extra "MY rd"); k_whole); (try dsimp only [List.cons_append, List.nil_append])))
  (k_with "eval Constant str!" => with_reducible refine const_str ?_)
  (k_with "eval Constant int!" => with_reducible refine const_int ?_)
  (k_with "storeName!" => (k_here; k_dflt (refine' storeN ?F_z ?N_z ?_ ?a_z ?b_z; (case F_z => k_asm); (case N_z => k_asm); (case a_z => rfl); (case b_z => rfl); k_whole; intro hq' Fq' Nq'; (try k_sweep))))
  (k_with "unpackItems ref!" => (k_here; k_dflt (refine' unpackN ?k1_z ?k2_z ?k3_z ?k4_z ?k5_z ?_; (case k1_z => k_asm); (case k2_z => k_asm); (case k3_z => kun_tup); (case k4_z => exact rfl); (case k5_z => exact rfl); k_whole); intro hq' Fq' Nq'; (try k_sweep)))
  (k_with "newTuple cons!" => (k_here; (with_reducible show wpAny _ _ (newTuple [_, _]) _ _ _); k_dflt (first | (refine' tupTo2 ?F_z ?N_z ?k_z ?x_z ?y_z ?hh_z ?_; (case F_z => k_asm); (case N_z => k_asm); (case k_z => rfl); (case x_z => rfl); (case y_z => rfl); (case hh_z => exact rfl); k_whole) | (refine' tupTo2s ?F_z ?N_z ?t_z ?k_z ?x_z ?y_z ?hh_z ?_; (case F_z => k_asm); (case N_z => k_asm); (case t_z => with_unfolding_all rfl); (case k_z => rfl); (case x_z => rfl); (case y_z => rfl); (case hh_z => exact rfl); k_whole)); intro hq' Fq' Nq'; (try k_sweep)))
  (k_with "eval Subscript!" => (k_here; (with_reducible show wpAny _ _ (eval (Expr.Subscript (Expr.Name _ _) (Expr.Constant (Const.str _) _ _) _) _) _ _ _); k_dflt (refine' subName ?F_z ?N_z ?k_z ?x_z ?b_z ?v_z ?p_z ?o_z ?l_z ?_; (case F_z => k_asm); (case N_z => k_asm); (case k_z => rfl); (case x_z => rfl); (case b_z => decide); (case v_z => rfl); (case p_z => k_mem); (case o_z => k_asm); (case l_z => rfl); k_whole)))
  (k_with "execs cons!" => (k_here; (first | (with_reducible refine execs_gen ?_; intro tq') | with_reducible refine wpAny_execs_cons ?_); (try k_fold)))
  (k_with "k_room!" => first | (refine' rm_k ?h_z ?e_z; (case h_z => with_reducible assumption); (case e_z => rfl)) | ((try simp only [depth_under_make, depth_under_kw, depth_in1, depth_deeper, depth_caller]); show _ < 1000; (try dsimp only); omega))
  (k_with "ke_room!" => first | (refine' rm_u ?h_z ?e_z; (case h_z => with_reducible assumption); (case e_z => rfl)) | ((simp only [units_under_make, units_in1, units_deeper, Around.mark_units, units_caller]); show _ < 9900; (try dsimp only); omega))
  (k_with "MY room" => first | (refine' rm_le ?h_z ?e_z; (case h_z => with_reducible assumption); (case e_z => rfl)) | ((try simp only [depth_under_make, depth_under_kw, depth_in1, depth_deeper, depth_caller, units_under_make, units_in1, units_deeper, Around.mark_units, units_caller]); (try dsimp only); omega))
  (k_with "call ref!" => (k_here; (with_reducible show wpAny _ _ (call (Value.ref 723) _) _ _ _); k_dflt (refine' call_scoop ?k1_z ?k2_z ?k3_z ?k4_z ?k5_z ?U_z ?hf_z ?hk_z ?hr_z ?hu_z ?p1_z ?p4_z ?p5_z ?_; (case hf_z => exact rfl); (case hk_z => exact rfl); (case k1_z => k_asm); (case k2_z => k_asm); (case k3_z => k_asm); (case k4_z => k_asm); (case k5_z => k_asm); (case U_z => k_updF); (case hr_z => k_extra "MY room"); (case hu_z => k_extra "MY room"); (case p1_z => k_asm); (case p4_z => omega); (case p5_z => omega); k_whole); intro h' tk' r' tr' a' ta' b' tb' F' N' hr0' hr1' ok'; (try dsimp only at N'); (try k_sweep)))
  (k_with "call ref!" => (k_here; (with_reducible show wpAny _ _ (call (Value.ref 730) _) _ _ _); k_dflt (refine' call_oneSel ?k1_z ?k2_z ?k3_z ?k4_z ?k5_z ?U_z ?hl_z ?hne_z ?hf_z ?hk_z ?hr_z ?hu_z ?p1_z ?p4_z ?p5_z ?p6_z ?_ ?_; (case hf_z => exact rfl); (case hk_z => exact rfl); (case k1_z => k_asm); (case k2_z => k_asm); (case k3_z => k_asm); (case k4_z => k_asm); (case k5_z => k_asm); (case hl_z => k_mem); (case hne_z => k_ne); (case U_z => k_updF); (case hr_z => k_extra "MY room"); (case hu_z => k_extra "MY room"); (case p1_z => k_asm); (case p4_z => exact Nat.le_of_ble_eq_true rfl); (case p5_z => exact Nat.le_of_ble_eq_true rfl); (case p6_z => exact rfl); k_whole); all_goals (intros; rename News _ _ _ _ => N'; (try dsimp only at N'); (try k_sweep))))
  (k_with "MY sub" => first | exact fun _ h => h | (refine sub_cons ?_; k_extra "MY sub"))
  (k_with "MY len" => first | with_reducible assumption | (refine' len_two ?h_z ?g_z ?e_z; (case h_z => assumption); (case g_z => with_reducible assumption); (case e_z => rfl)) | (refine' len_three ?h_z ?g_z ?e_z; (case h_z => assumption); (case g_z => with_reducible assumption); (case e_z => rfl)) | ((try simp only [List.length_append, List.length_cons, List.length_nil] at *); omega))
  (k_with "compareOp NotEq ref ref!" => (k_here; (with_reducible show wpAny _ _ (compareOp CmpOp.NotEq (Value.ref _) (Value.ref _)) _ _ _); k_dflt (first | (refine' ne_nil_cons ?N_z ?a_z ?b_z ?d_z ?s_z ?u_z ?_; (case N_z => k_asm); (case a_z => k_mem); (case b_z => k_mem); (case d_z => k_asm); (case s_z => k_extra "MY sub"); (case u_z => ke_room)) | (refine' ne_nil_nil ?N_z ?a_z ?b_z ?u_z ?_; (case N_z => k_asm); (case a_z => k_mem); (case b_z => k_mem); (case u_z => ke_room)))))
  (k_with "compareOp Eq ref ref!" => (k_here; (with_reducible show wpAny _ _ (compareOp CmpOp.Eq (Value.ref _) (Value.ref _)) _ _ _); k_dflt (first | (refine' eq_nil_cons ?N_z ?a_z ?b_z ?d_z ?s_z ?u_z ?_; (case N_z => k_asm); (case a_z => k_mem); (case b_z => k_mem); (case d_z => k_asm); (case s_z => k_extra "MY sub"); (case u_z => ke_room)) | (refine' eq_nil_nil ?N_z ?a_z ?b_z ?u_z ?_; (case N_z => k_asm); (case a_z => k_mem); (case b_z => k_mem); (case u_z => ke_room)))))
  (k_with "call builtin:list.pop!" => (k_here; k_dflt ((with_reducible show wpAny _ _ (call (Value.builtin _) [Value.ref _, Value.int _ _]) _ _ _); refine' my_pop0 ?F_z ?N_z ?U_z ?z_z ?_; (case F_z => k_asm); (case N_z => k_asm); (case U_z => k_updF); (case z_z => k_extra "MY len")); intro h' F' N'; (try dsimp only at N'); (try k_sweep)))
  (k_with "call builtin:list.append!" => (k_here; k_dflt ((with_reducible show wpAny _ _ (call (Value.builtin _) [Value.ref _, _]) _ _ _); refine' my_append ?F_z ?N_z ?U_z ?z_z ?_; (case F_z => k_asm); (case N_z => k_asm); (case U_z => k_updF); (case z_z => k_extra "MY len")); intro h' F' N'; (try dsimp only at N'); (try simp only [List.nil_append] at N'); (try k_sweep)))
  (k_with "call builtin:len!" => (k_here; (with_reducible show wpAny _ _ (call (Value.builtin "len") [Value.ref _]) _ _ _); k_dflt (refine' my_len ?N_z ?m_z ?z_z ?_; (case N_z => k_asm); (case m_z => k_mem); (case z_z => k_extra "MY len"))))
  (k_with "call ref!" => (k_here; (with_reducible show wpAny _ _ (call (Value.ref 737) _) _ _ _); k_dflt (first | (refine' call_ready_send ?k1_z ?k2_z ?k3_z ?k4_z ?k5_z ?hb_z ?h1_z ?h2_z ?h3_z ?h4_z ?hs_z ?hf_z ?hk_z ?hr_z ?hu_z ?r1_z ?r2_z ?r3_z ?l1_z ?_; (case hf_z => exact rfl); (case hk_z => exact rfl); (case k1_z => k_asm); (case k2_z => k_asm); (case k3_z => k_asm); (case k4_z => k_asm); (case k5_z => k_asm); (case h1_z => k_mem); (case hb_z => k_asm); (case h2_z => k_mem); (case h3_z => k_mem); (case h4_z => k_mem); (case r1_z => k_asm); (case r2_z => k_asm); (case r3_z => k_asm); (case hs_z => k_extra "MY sub"); (case hr_z => k_extra "MY room"); (case hu_z => k_extra "MY room"); (case l1_z => k_extra "MY len"); k_whole) | (refine' call_ready_recv ?k1_z ?k2_z ?k3_z ?k4_z ?k5_z ?hb_z ?h1_z ?h2_z ?h3_z ?h4_z ?hs_z ?hf_z ?hk_z ?hr_z ?hu_z ?r1_z ?r2_z ?r3_z ?l1_z ?_; (case hf_z => exact rfl); (case hk_z => exact rfl); (case k1_z => k_asm); (case k2_z => k_asm); (case k3_z => k_asm); (case k4_z => k_asm); (case k5_z => k_asm); (case h1_z => k_mem); (case hb_z => k_asm); (case h2_z => k_mem); (case h3_z => k_mem); (case h4_z => k_mem); (case r1_z => k_asm); (case r2_z => k_asm); (case r3_z => k_asm); (case hs_z => k_extra "MY sub"); (case hr_z => k_extra "MY room"); (case hu_z => k_extra "MY room"); (case l1_z => k_extra "MY len"); k_whole)); intro h' tk' F' N'; (try k_sweep)))
  (k_with "call ref!" => (k_here; (with_reducible show wpAny _ _ (call (Value.ref 28) _) _ _ _); k_dflt (first | (refine' call_case_send ?k1_z ?k2_z ?k3_z ?k4_z ?k5_z ?h1_z ?h2_z ?h3_z ?h4_z ?h5_z ?h6_z ?hs_z ?hf_z ?hk_z ?hr_z ?hu_z ?r1_z ?r2_z ?r3_z ?l1_z ?_; (case hf_z => exact rfl); (case hk_z => exact rfl); (case k1_z => k_asm); (case k2_z => k_asm); (case k3_z => k_asm); (case k4_z => k_asm); (case k5_z => k_asm); (case h1_z => k_mem); (case h2_z => k_mem); (case h3_z => k_mem); (case h4_z => k_mem); (case h5_z => k_mem); (case h6_z => k_mem); (case r1_z => k_asm); (case r2_z => k_asm); (case r3_z => k_asm); (case hs_z => k_extra "MY sub"); (case hr_z => k_extra "MY room"); (case hu_z => k_extra "MY room"); (case l1_z => k_extra "MY len"); k_whole) | (refine' call_case_recv ?k1_z ?k2_z ?k3_z ?k4_z ?k5_z ?h1_z ?h2_z ?h3_z ?h4_z ?h5_z ?h6_z ?hs_z ?hf_z ?hk_z ?hr_z ?hu_z ?r1_z ?r2_z ?r3_z ?l1_z ?_; (case hf_z => exact rfl); (case hk_z => exact rfl); (case k1_z => k_asm); (case k2_z => k_asm); (case k3_z => k_asm); (case k4_z => k_asm); (case k5_z => k_asm); (case h1_z => k_mem); (case h2_z => k_mem); (case h3_z => k_mem); (case h4_z => k_mem); (case h5_z => k_mem); (case h6_z => k_mem); (case r1_z => k_asm); (case r2_z => k_asm); (case r3_z => k_asm); (case hs_z => k_extra "MY sub"); (case hr_z => k_extra "MY room"); (case hu_z => k_extra "MY room"); (case l1_z => k_extra "MY len"); k_whole)); intro h' tk' F' N'; (try k_sweep)))
  (k_with "k_mem!" => with_reducible assumption)
  (k_with "MY cls" => first | exact cls_dict (by with_reducible assumption) | exact cls_rf | exact cls_ty (by decide) | fail "MY cls")
  (k_with "k_all!" => with_reducible assumption)
  (k_with "k_all!" => (refine' offTup ?N_z ?t_z ?s_z ?m_z ?c_z; (case N_z => k_asm); (case t_z => with_reducible assumption); (case s_z => k_extra "MY sub"); (case m_z => k_mem); (case c_z => k_extra "MY cls")))
  (k_with "eval ListComp!" => (k_here; (with_reducible show wpAny _ _ (eval (Expr.ListComp (Expr.Name _ _) [⟨Expr.Name _ _, _, [Expr.Compare _ [CmpOp.NotEq] _ _], _⟩] _ _) _) _ _ _); k_dflt (refine' filter_comp ?F_z ?N_z ?t_z ?c_z ?d_z ?k1_z ?k2_z ?k3_z ?k4_z ?k5_z ?k6_z ?k7_z ?k8_z ?k9_z ?hh_z ?u_z ?_ ?k10_z; (case F_z => k_asm); (case N_z => k_asm); (case t_z => with_reducible assumption); (case k1_z => with_unfolding_all rfl); (case c_z => k_mem); (case d_z => k_asm); (case k2_z => decide); (case k3_z => rfl); (case k4_z => decide); (case k5_z => rfl); (case k6_z => intro _; rfl); (case k7_z => intro _; rfl); (case k8_z => decide); (case k9_z => decide); (case hh_z => exact rfl); (case u_z => ke_room); (case k10_z => intro _; with_unfolding_all rfl))))
  (k_with "FiltSrc!" => ((rename Fr _ _ _ _ => lF'); (rename News _ _ _ _ => lN'); (refine ⟨_, _, _, _, _, _, rfl, lF', lN', by k_mem, by (first | with_reducible assumption), by (k_extra "MY sub"), by k_mem, by k_asm, by (k_extra "MY len"), ?_⟩); clear lF' lN'; intro h' tk' l' n' F' N' ap'; (try k_sweep)))
  (k_with "ked_read!" => exact sel_reads (by with_reducible assumption))
  (k_with "subscriptTail!" => (k_here; (with_reducible show wpAny _ _ (subscriptTail _ _ (Value.ref _) (Value.int _ _)) _ _ _); k_dflt (refine' item_row ?N_z ?s_z ?m_z ?a_z ?b_z ?c_z ?d_z ?_; (case N_z => k_asm); (case m_z => with_reducible assumption); (case s_z => k_extra "MY sub"); (case a_z => decide); (case b_z => decide); (case c_z => rfl); (case d_z => rfl))))
  (k_with "eval Subscript!" => (k_here; (with_reducible show wpAny _ _ (eval (Expr.Subscript (Expr.Name _ _) (Expr.Constant (Const.int _) _ _) _) _) _ _ _); k_dflt (refine' rowName ?F_z ?N_z ?k_z ?x_z ?b_z ?v_z ?s_z ?m_z ?a_z ?c_z ?d_z ?_; (case F_z => k_asm); (case N_z => k_asm); (case k_z => rfl); (case x_z => rfl); (case b_z => decide); (case v_z => rfl); (case m_z => with_reducible assumption); (case s_z => k_extra "MY sub"); (case a_z => decide); (case c_z => rfl); (case d_z => rfl); k_whole)))
  (k_with "k_memK!" => first | (refine Bef.head ?_; k_memK) | (refine Bef.tail ?_; k_memK))
  (k_with "k_ne!" => (refine neN ?_; (try dsimp only); first | exact Aps.get (by with_reducible assumption) (by k_memK) | exact (Aps.get (by with_reducible assumption) (by k_memK)).symm | exact AllAp.get (by with_reducible assumption) (by k_memK) | exact (AllAp.get (by with_reducible assumption) (by k_memK)).symm | omega))
  (k_with "newTuple!" => (k_here; k_dflt (refine' newTupS ?F_z ?N_z ?z_z ?_; (case F_z => k_asm); (case N_z => k_asm); (case z_z => rfl); k_whole); intro Dq' hq' lq' Fq' Nq'; (try k_sweep)))
  (k_with "newList!" => (k_here; k_dflt (refine' newListS ?F_z ?N_z ?z_z ?_; (case F_z => k_asm); (case N_z => k_asm); (case z_z => rfl); k_whole); intro Dq' hq' lq' Fq' Nq'; (try k_sweep)))
  (k_with "MYM" => with_reducible (first | exact mm0 | exact mm1 | exact mm2 | exact mm3 | exact mm4 | exact mm5 | exact mm6 | exact mm7 | exact mm8 | exact mm9 | exact mm10 | exact mm11 | exact mm12 | exact mm13 | exact mm14 | exact mm15 | exact mm16 | exact mm17 | exact mm18 | exact mm19 | exact mm20 | exact mm21 | exact mm22 | exact mm23 | exact mm24 | exact mm25 | exact mm26 | exact mm27 | exact mm28 | exact mm29 | exact mm30 | exact mm31 | exact mm32 | exact mm33 | exact mm34 | exact mm35 | exact mm36 | exact mm37 | exact mm38 | exact mm39 | exact mm40 | exact mm41 | exact mm42 | exact mm43 | exact mm44 | exact mm45 | exact mm46 | exact mm47))
  (k_with "MYB" => (first | (with_reducible refine bf0 ?_) | (with_reducible refine bg0 ?_) | (with_reducible refine bf1 ?_) | (with_reducible refine bg1 ?_) | (with_reducible refine bf2 ?_) | (with_reducible refine bg2 ?_) | (with_reducible refine bf3 ?_) | (with_reducible refine bg3 ?_) | (with_reducible refine bf4 ?_) | (with_reducible refine bg4 ?_) | (with_reducible refine bf5 ?_) | (with_reducible refine bg5 ?_) | (with_reducible refine bf6 ?_) | (with_reducible refine bg6 ?_) | (with_reducible refine bf7 ?_) | (with_reducible refine bg7 ?_) | (with_reducible refine bf8 ?_) | (with_reducible refine bg8 ?_) | (with_reducible refine bf9 ?_) | (with_reducible refine bg9 ?_) | (with_reducible refine bf10 ?_) | (with_reducible refine bg10 ?_) | (with_reducible refine bf11 ?_) | (with_reducible refine bg11 ?_)); k_extra "MYM")
  (k_with "k_mem!" => k_extra "MYM")
  (k_with "k_all!" => exact ltS_all (by with_reducible assumption))
  (k_with "k_ne!" => (refine neN ?_; (try dsimp only); first | (refine' allLt_ne ?L_z ?M_z; (case L_z => with_reducible assumption); (case M_z => k_extra "MYM")) | (refine' lt_neS ?L_z ?M_z; (case L_z => with_reducible assumption); (case M_z => k_extra "MYM")) | (refine' aps_ne ?A_z ?B_z; (case A_z => with_reducible assumption); (case B_z => k_extra "MYB")) | (refine' lt_ne1 ?L_z ?M_z; (case L_z => with_reducible assumption); (case M_z => k_extra "MYM")) | (refine' lt_neS1 ?L_z ?M_z; (case L_z => with_reducible assumption); (case M_z => k_extra "MYM")) | exact ne_lt (by with_reducible assumption) | exact (ne_lt (by with_reducible assumption)).symm | (refine' allLt_ne2 ?e_z ?L_z ?M_z; (case e_z => with_reducible assumption); (case L_z => with_reducible assumption); (case M_z => k_extra "MYM")) | (refine' (allLt_ne2 ?e_z ?L_z ?M_z).symm; (case e_z => with_reducible assumption); (case L_z => with_reducible assumption); (case M_z => k_extra "MYM")) | exact AllAp.get (by with_reducible assumption) (by k_mem) | exact (AllAp.get (by with_reducible assumption) (by k_mem)).symm | fail "MY ne"))
  (k_with "MY split" => (repeat (rename (_ ∧ _) => hc9; obtain ⟨_, _⟩ := hc9)))
  (k_with "MY lts" => (repeat' (first | with_reducible assumption | exact True.intro | refine And.intro ?_ ?_)))
  (k_with "MY stay" => first | (refine' allk ?a9_z ?b9_z; (case a9_z => first | exact fun _ => News.get (by with_reducible assumption) (by k_mem) | exact fun h => absurd (by k_memK) h); (case b9_z => k_extra "MY stay")) | exact fun q hq _ => (by with_reducible assumption : News _ _ _ _).get ((by k_extra "MY sub" : ∀ p ∈ _, p ∈ _) q hq))
  (k_with "MY now" => first | exact List.forall_mem_nil _ | (refine' allk ?a9_z ?b9_z; (case a9_z => exact News.get (by with_reducible assumption) (by k_mem)); (case b9_z => k_extra "MY now")))
  (k_with "MY made" => first | exact List.forall_mem_nil _ | (refine' allk ?a9_z ?b9_z; (case a9_z => exact ⟨News.get (by with_reducible assumption) (by k_mem), News.fresh (by with_reducible assumption) (by k_mem)⟩); (case b9_z => k_extra "MY made")))
  (k_with "MY aps1" => first | (refine' ltS_ap ?L_z ?s_z; (case L_z => with_reducible assumption); (case s_z => first | exact fun h => h | exact fun h => h.2 | exact fun h => h.2.2 | exact fun h => h.2.2.2 | exact fun h => h.2.2.2.2 | exact fun h => h.2.2.2.2.2 | exact fun h => h.2.2.2.2.2.2 | exact fun h => h.2.2.2.2.2.2.2)) | exact allLt_ap (by k_extra "MY lts"))
  (k_with "MY apart" => first | exact List.forall_mem_nil _ | (refine' allk ?a9_z ?b9_z; (case a9_z => k_extra "MY aps1"); (case b9_z => k_extra "MY apart")))
  (k_with "MY ap" => first | (refine allc ⟨AllAp.get (by with_reducible assumption) (by k_mem), ?_⟩; k_extra "MY ap") | exact fun q hq => AllAp.get (by with_reducible assumption) ((by k_extra "MY sub" : ∀ p ∈ _, p ∈ _) q hq))
  (k_with "call ref!" => (k_here; (with_reducible show wpAny _ _ (call (Value.ref 399) _) _ _ _); k_dflt (first | (refine' call_offerA ?k1_z ?k2_z ?k3_z ?k4_z ?k5_z ?h1_z ?h2_z ?h3_z ?h4_z ?h5_z ?hs_z ?hf_z ?hk_z ?hr_z ?hu_z ?ap_z ?tu_z ?ro_z ?rd_z ?la_z ?as_z ?U_z ?_; (case hf_z => exact rfl); (case hk_z => exact rfl); (case k1_z => k_asm); (case k2_z => k_asm); (case k3_z => k_asm); (case k4_z => k_asm); (case k5_z => k_asm); (case tu_z => with_reducible assumption); (case h1_z => k_mem); (case h2_z => k_mem); (case h3_z => k_mem); (case h4_z => k_mem); (case h5_z => k_mem); (case ro_z => k_mem); (case as_z => with_reducible assumption); (case rd_z => k_asm); (case ap_z => with_reducible assumption); (case hs_z => k_extra "MY sub"); (case hr_z => k_extra "MY room"); (case hu_z => k_extra "MY room"); (case la_z => k_extra "MY len"); (case U_z => k_updF); intro told' e1' e2' e3' u1' u2' u3' h' tk' F' N' ap1' ap2' ap3' ap4'; (try dsimp only at N'); (try k_sweep)) | (refine' call_offerB ?k1_z ?k2_z ?k3_z ?k4_z ?k5_z ?h1_z ?h2_z ?h3_z ?h4_z ?h5_z ?hs_z ?hf_z ?hk_z ?hr_z ?hu_z ?ap_z ?tu_z ?ro_z ?la_z ?lt_z ?U_z ?_; (case hf_z => exact rfl); (case hk_z => exact rfl); (case k1_z => k_asm); (case k2_z => k_asm); (case k3_z => k_asm); (case k4_z => k_asm); (case k5_z => k_asm); (case tu_z => with_reducible assumption); (case h1_z => k_mem); (case h2_z => k_mem); (case h3_z => k_mem); (case h4_z => k_mem); (case h5_z => k_mem); (case ro_z => k_mem); (case ap_z => with_reducible assumption); (case hs_z => k_extra "MY sub"); (case hr_z => k_extra "MY room"); (case hu_z => k_extra "MY room"); (case la_z => k_extra "MY len"); (case lt_z => with_reducible assumption); (case U_z => k_updF); intro told' e1' u1' h' tk' F' N' ap1' ap2'; (try dsimp only at N'); (try k_sweep)) | (refine' call_offerC ?k1_z ?k2_z ?k3_z ?k4_z ?k5_z ?h1_z ?h2_z ?h3_z ?h4_z ?h5_z ?hs_z ?hf_z ?hk_z ?hr_z ?hu_z ?ap_z ?tu_z ?ro_z ?la_z ?lb_z ?lt_z ?U_z ?_; (case hf_z => exact rfl); (case hk_z => exact rfl); (case k1_z => k_asm); (case k2_z => k_asm); (case k3_z => k_asm); (case k4_z => k_asm); (case k5_z => k_asm); (case tu_z => with_reducible assumption); (case h1_z => k_mem); (case h2_z => k_mem); (case h3_z => k_mem); (case h4_z => k_mem); (case h5_z => k_mem); (case ro_z => k_mem); (case ap_z => with_reducible assumption); (case hs_z => k_extra "MY sub"); (case hr_z => k_extra "MY room"); (case hu_z => k_extra "MY room"); (case la_z => k_extra "MY len"); (case lb_z => k_extra "MY len"); (case lt_z => with_reducible assumption); (case U_z => k_updF); intro told' e1' u1' h' tk' F' N' ap1' ap2'; (try dsimp only at N'); (try k_sweep)))))
  (k_with "call ref!" => (k_here; (with_reducible show wpAny _ _ (call (Value.ref 406) _) _ _ _); k_dflt (first | (refine' call_takeA ?k1_z ?k2_z ?k3_z ?k4_z ?k5_z ?h1_z ?h2_z ?h3_z ?h4_z ?h5_z ?hs_z ?hf_z ?hk_z ?hr_z ?hu_z ?ap_z ?tu_z ?rd_z ?re_z ?la_z ?lb_z ?as_z ?U_z ?V_z ?_; (case hf_z => exact rfl); (case hk_z => exact rfl); (case k1_z => k_asm); (case k2_z => k_asm); (case k3_z => k_asm); (case k4_z => k_asm); (case k5_z => k_asm); (case tu_z => with_reducible assumption); (case h1_z => k_mem); (case h2_z => k_mem); (case h3_z => k_mem); (case h4_z => k_mem); (case h5_z => k_mem); (case as_z => with_reducible assumption); (case rd_z => k_asm); (case re_z => k_asm); (case ap_z => with_reducible assumption); (case hs_z => k_extra "MY sub"); (case hr_z => k_extra "MY room"); (case hu_z => k_extra "MY room"); (case la_z => k_extra "MY len"); (case lb_z => k_extra "MY len"); (case U_z => k_updF); (case V_z => (try dsimp only); k_updF); intro told' e1' e2' e3' u1' u2' u3' nt' h' tk' F' N' ap1' ap2' ap3' ap4'; (try dsimp only at N'); (try k_sweep)) | (refine' call_takeB ?k1_z ?k2_z ?k3_z ?k4_z ?k5_z ?h1_z ?h2_z ?h3_z ?h4_z ?h5_z ?hs_z ?hf_z ?hk_z ?hr_z ?hu_z ?ap_z ?tu_z ?rd_z ?la_z ?U_z ?_; (case hf_z => exact rfl); (case hk_z => exact rfl); (case k1_z => k_asm); (case k2_z => k_asm); (case k3_z => k_asm); (case k4_z => k_asm); (case k5_z => k_asm); (case tu_z => with_reducible assumption); (case h1_z => k_mem); (case h2_z => k_mem); (case h3_z => k_mem); (case h4_z => k_mem); (case h5_z => k_mem); (case rd_z => k_asm); (case ap_z => with_reducible assumption); (case hs_z => k_extra "MY sub"); (case hr_z => k_extra "MY room"); (case hu_z => k_extra "MY room"); (case la_z => k_extra "MY len"); (case U_z => k_updF); intro told' e1' u1' nt' h' tk' F' N' ap1' ap2'; (try dsimp only at N'); (try k_sweep)) | (refine' call_takeC ?k1_z ?k2_z ?k3_z ?k4_z ?k5_z ?h1_z ?h2_z ?h3_z ?h4_z ?h5_z ?hs_z ?hf_z ?hk_z ?hr_z ?hu_z ?ap_z ?tu_z ?rd_z ?la_z ?as_z ?U_z ?_; (case hf_z => exact rfl); (case hk_z => exact rfl); (case k1_z => k_asm); (case k2_z => k_asm); (case k3_z => k_asm); (case k4_z => k_asm); (case k5_z => k_asm); (case tu_z => with_reducible assumption); (case h1_z => k_mem); (case h2_z => k_mem); (case h3_z => k_mem); (case h4_z => k_mem); (case h5_z => k_mem); (case as_z => with_reducible assumption); (case rd_z => k_asm); (case ap_z => with_reducible assumption); (case hs_z => k_extra "MY sub"); (case hr_z => k_extra "MY room"); (case hu_z => k_extra "MY room"); (case la_z => k_extra "MY len"); (case U_z => k_updF); intro told' e1' e2' e3' u1' u2' u3' nt' h' tk' F' N' ap1' ap2' ap3' ap4'; (try dsimp only at N'); (try k_sweep)) | (refine' call_takeD ?k1_z ?k2_z ?k3_z ?k4_z ?k5_z ?h1_z ?h2_z ?h3_z ?h4_z ?h5_z ?hs_z ?hf_z ?hk_z ?hr_z ?hu_z ?ap_z ?tu_z ?la_z ?U_z ?_; (case hf_z => exact rfl); (case hk_z => exact rfl); (case k1_z => k_asm); (case k2_z => k_asm); (case k3_z => k_asm); (case k4_z => k_asm); (case k5_z => k_asm); (case tu_z => with_reducible assumption); (case h1_z => k_mem); (case h2_z => k_mem); (case h3_z => k_mem); (case h4_z => k_mem); (case h5_z => k_mem); (case ap_z => with_reducible assumption); (case hs_z => k_extra "MY sub"); (case hr_z => k_extra "MY room"); (case hu_z => k_extra "MY room"); (case la_z => k_extra "MY len"); (case U_z => k_updF); intro told' e1' u1' nt' h' tk' F' N' ap1' ap2'; (try dsimp only at N'); (try k_sweep)))))
  (k_with "call ref!" => (k_here; (with_reducible show wpAny _ _ (call (Value.ref 423) _) _ _ _); k_dflt (refine' call_forget ?k1_z ?k2_z ?k3_z ?k4_z ?k5_z ?h1_z ?h2_z ?h3_z ?h4_z ?h5_z ?hs_z ?hf_z ?hk_z ?hr_z ?hu_z ?ap_z ?tu_z ?rS_z ?rR_z ?la_z ?lb_z ?U_z ?_; (case hf_z => exact rfl); (case hk_z => exact rfl); (case k1_z => k_asm); (case k2_z => k_asm); (case k3_z => k_asm); (case k4_z => k_asm); (case k5_z => k_asm); (case tu_z => with_reducible assumption); (case h1_z => k_mem); (case h2_z => k_mem); (case h3_z => k_mem); (case h4_z => k_mem); (case h5_z => k_mem); (case rS_z => with_reducible assumption); (case rR_z => with_reducible assumption); (case ap_z => with_reducible assumption); (case hs_z => k_extra "MY sub"); (case hr_z => k_extra "MY room"); (case hu_z => k_extra "MY room"); (case la_z => k_extra "MY len"); (case lb_z => k_extra "MY len"); (case U_z => k_updF); intro l1' l2' n1' n2' h' tk' F' N' ap1' ap2' ne'; (try dsimp only at N'); (try k_sweep))))
  (k_with "MY step" => first | (k_unfold; (try dsimp only)) | (k_end; wrow_close) | walk1 | (dsimp only; walk1) | (leave1; walk_say "STEP leave1"; try dsimp only) | fail "no step")
  (k_with "MY sub" => exact fun _ h => List.mem_append_left _ h)
  trivial
theorem kqdOk_mono : ∀ (n : Nat) (d : Dat), kqdOk n d = true → kqdOk (n + 1) d = true
  | _, .none, _ => rfl
  | _, .int _, _ => rfl
  | 0, .str _, h => h
  | _ + 1, .str _, h => h
  | n + 1, .tuple ds, h => by
    have h' : ds.all (kqdOk n) = true := h
    show ds.all (kqdOk (n + 1)) = true
    exact List.all_eq_true.mpr fun d hd => kqdOk_mono n d (List.all_eq_true.mp h' d hd)
  | n + 1, .list ds, h => by
    have h' : ds.all (kqdOk n) = true := h
    show ds.all (kqdOk (n + 1)) = true
    exact List.all_eq_true.mpr fun d hd => kqdOk_mono n d (List.all_eq_true.mp h' d hd)
  | 0, .bool _, h => nomatch h
  | _ + 1, .bool _, h => nomatch h
  | 0, .tuple _, h => nomatch h
  | 0, .list _, h => nomatch h
  | 0, .bytes _, h => nomatch h
  | _ + 1, .bytes _, h => nomatch h

section
variable {w : World} {mean : ExcName → Option Value} {mg mb : Str → Option Value} {A₀ : Around} {dp un : Nat} {gd : Option (List Code)} {base g : Heap} {outer : List Env} {L : Addr} {m : Str → Option Value} {env : Env} {s : Shared} {E : Value → Shared → Prop} {Q : Value → Shared → Prop}
    {rl : Addr} {rowsV : List Value} {n : Nat} {gs : List (Dat × Option Int)} {tl news : List (Addr × Obj)}
theorem call_once (B : Below A₀ base outer g) (X : (Mine.hd0.heap_1_1 w.params).In g) (T : Top PV LO mean mg mb g) (F : Fr g L s.heap m) (N : News g L s.heap news)
    (hrl : (rl, listOf rowsV.toArray n) ∈ news) (htl : ∀ p ∈ tl, p ∈ news) (hp : Paired (IsPair tl) rowsV gs) (hlen : gs.length ≤ 100) (tup : TupLed tl)
    (hf : env.frame = some L) (hke : env.scope.kind = .function) (hroom : dp ≤ 900) (hun : un ≤ 8500)
    (h : ∀ h' tk fl fV nf ex, Fr g L h' m → News g L h' ((fl, listOf fV.toArray nf) :: (ex ++ news)) → DatAll (ex ++ news) fV (onceK gs).1 → Q (.ref fl) { s with heap := h', toks := tk }) :
    wpAny (model PR w) ⟨none, dp, some (env :: outer), gd, un⟩ (call (.ref 364) [.ref rl]) Q E s := by
  have hsub : ∀ p ∈ (rl, listOf rowsV.toArray n) :: tl, p ∈ news := allc ⟨hrl, htl⟩
  refine callH (P := fun g' => OncePost ((rl, listOf rowsV.toArray n) :: tl) gs g') ((rl, listOf rowsV.toArray n) :: tl) B X T F rfl hf hke (fun p hp => N p (hsub p hp)) (fun g' G hx N' _ => once_spec G hx hroom hun hp hlen tup N') ?_
  rintro v h' tk g' F' keep toN ⟨fl, fV, nf, ex, rfl, NG, hd⟩
  have N' := newsAll N hsub keep (fun p hp => NG p (.tail _ (List.mem_append_right _ hp)))
  have N2 := toN _ NG
  refine h h' tk fl fV nf ex F' (fun p hp => ?_) (hd.mono fun p hp => ?_)
  · rcases List.mem_cons.mp hp with rfl | hp
    · exact N2 _ (.head _)
    · rcases List.mem_append.mp hp with q | q
      · exact N2 p (.tail _ (List.mem_append_left _ q))
      · exact N' p q
  · exact (List.mem_append.mp hp).elim (fun q => List.mem_append_left _ q) fun q => List.mem_append_right _ (hsub p q)
end

theorem stepK_sub (P : Dat → Prop) : ∀ (gs : List (Dat × Option Int)) (st : List Dat × List (Option Int)), (∀ d ∈ st.1, P d) → (∀ x ∈ gs, P x.1) → ∀ d ∈ (gs.foldl stepK st).1, P d
  | [], _, h, _ => h
  | x :: gs, st, h, hg => by
    refine stepK_sub P gs _ ?_ fun y hy => hg y (.tail _ hy)
    unfold stepK
    split
    · intro d hd
      rcases List.mem_append.mp hd with q | q
      · exact h d q
      · rw [List.mem_singleton.mp q]; exact hg x (.head _)
    · exact h
theorem IsPair.ok {tl : List (Addr × Obj)} {v : Value} {ds : Dat × Option Int} (h : IsPair tl v ds) : kqdOk 8 ds.1 = true := by
  obtain ⟨p, a, wv, x1, x2, x3, sv, n, n', d1, d2, d3, dw, e, h1, h2, h3, h4, h5, h6, h7, e1, e2, k1, k2, k3, k4⟩ := h
  rw [e1]
  have k5 := sel_ok h3 6
  have k6 := kqdOk_mono _ _ k4
  show ([.tuple [d1, d2, d3, oDat sv], dw] : List Dat).all (kqdOk 7) = true
  simp only [List.all_cons, List.all_nil, Bool.and_true, k6]
  show ([d1, d2, d3, oDat sv] : List Dat).all (kqdOk 6) = true
  simp only [List.all_cons, List.all_nil, Bool.and_true, k1, k2, k3, k5]
theorem paired_all {α β : Type} {R : α → β → Prop} {P : β → Prop} (hR : ∀ a b, R a b → P b) : ∀ {l₁ : List α} {l₂ : List β}, Paired R l₁ l₂ → ∀ b ∈ l₂, P b
  | _, _, .nil => List.forall_mem_nil _
  | _, _, .cons h t => allc ⟨hR _ _ h, paired_all hR t⟩
theorem paired_len {α β : Type} {R : α → β → Prop} : ∀ {l₁ : List α} {l₂ : List β}, Paired R l₁ l₂ → l₁.length = l₂.length
  | _, _, .nil => rfl
  | _, _, .cons _ t => congrArg (· + 1) (paired_len t)
theorem paired_mono {α β : Type} {R R' : α → β → Prop} (hR : ∀ a b, R a b → R' a b) : ∀ {l₁ : List α} {l₂ : List β}, Paired R l₁ l₂ → Paired R' l₁ l₂
  | _, _, .nil => .nil
  | _, _, .cons h t => .cons (hR _ _ h) (paired_mono hR t)
theorem paired_get {α β : Type} {R : α → β → Prop} : ∀ {l₁ : List α} {l₂ : List β}, Paired R l₁ l₂ → ∀ {i : Nat} {a : α}, l₁[i]? = some a → ∃ b, l₂[i]? = some b ∧ R a b
  | _, _, .nil, _, _, e => by simp at e
  | _, _, .cons h _, 0, a, e => by
    simp only [List.getElem?_cons_zero, Option.some.injEq] at e
    subst e
    exact ⟨_, rfl, h⟩
  | _, _, .cons _ t, i + 1, a, e => by
    obtain ⟨b, h1, h2⟩ := paired_get t (i := i) (a := a) (by simpa using e)
    exact ⟨b, by simpa using h1, h2⟩
theorem onceK_ok {tl : List (Addr × Obj)} {vs : List Value} {gs : List (Dat × Option Int)} (h : Paired (IsPair tl) vs gs) : ∀ d ∈ (onceK gs).1, kqdOk 8 d = true :=
  stepK_sub (fun d => kqdOk 8 d = true) gs ([], []) (List.forall_mem_nil _) (paired_all (fun _ _ h => h.ok) h)
/-- the row of one that is woken -/
def wakeD : Dat → Dat
  | .tuple [.tuple [d1, _, d3, s], dw] => .tuple [.str (Str.ofString "woken"), d1, d3, s, dw]
  | _ => .none
theorem IsPair.wakeOk {tl : List (Addr × Obj)} {v : Value} {ds : Dat × Option Int} (h : IsPair tl v ds) : kqdOk 8 (wakeD ds.1) = true := by
  obtain ⟨p, a, wv, x1, x2, x3, sv, n, n', d1, d2, d3, dw, e, h1, h2, h3, h4, h5, h6, h7, e1, e2, k1, k2, k3, k4⟩ := h
  rw [e1]
  have k5 := sel_ok h3 7
  show ([.str (Str.ofString "woken"), d1, d3, oDat sv, dw] : List Dat).all (kqdOk 7) = true
  simp only [List.all_cons, List.all_nil, Bool.and_true, k5, kqdOk_mono _ _ k1, kqdOk_mono _ _ k3, kqdOk_mono _ _ k4]
  show PyData.strOk (Str.ofString "woken") = true
  exact ok_woken
theorem wake_ok {tl : List (Addr × Obj)} {vs : List Value} {gs : List (Dat × Option Int)} (h : Paired (IsPair tl) vs gs) : ∀ d ∈ gs.map (fun x => wakeD x.1), kqdOk 8 d = true := by
  intro d hd
  obtain ⟨x, hx, rfl⟩ := List.mem_map.mp hd
  exact paired_all (P := fun x : Dat × Option Int => kqdOk 8 (wakeD x.1) = true) (fun _ _ h => h.wakeOk) h x hx

theorem comp_indP {w : World} {A : Around} {h₀ : Heap} {L : Addr} {m : Str → Option Value} {env : Env} {elt : PySem.Expr} {x x₂ : Str} {scope : Scope} {cl : List (Str × Addr)} {s : Shared} {S : List (Addr × Obj) → Prop} {Fin : List Value → List (Addr × Obj) → Prop} {vs : List Value}
    (J : Nat → List Value → List (Addr × Obj) → Prop)
    (turn : ∀ i v ys news, vs[i]? = some v → J i ys news → ∃ (t : Addr) (ot : Obj) (v₁ v₂ : Value) (nt : Nat), v = .ref t ∧ (t, ot) ∈ news ∧ ot.cls = .type "tuple" ∧ ot.data = .seq #[v₁, v₂] nt ∧
      ∀ I oI C oC D m₂ h tk (E' : Value → Shared → Prop), LCg.NsObj oC m₂ → m₂ x = some v₁ → m₂ x₂ = some v₂ → Fr h₀ L h m → News h₀ L h ((I, oI) :: (C, oC) :: (D, LCg.lst ys) :: news) → LCg.Off3 I C D news → ((@Ne Nat I C) ∧ (@Ne Nat I D) ∧ (@Ne Nat C D)) →
      wpAny (model PR w) A (eval elt (compEnvC scope cl C env)) (LCg.CompEnd h₀ L m { s with heap := h, toks := tk } I oI C oC D (LCg.lst ys) S (fun y news' => J (i + 1) (ys ++ [y]) news')) E' { s with heap := h, toks := tk })
    (fin : ∀ ys news, J vs.length ys news → Fin ys news) :
    ∀ k i ys news, i + k = vs.length → J i ys news → LCp.CompRestP PR w A h₀ L m env elt x x₂ scope cl s S (fun i v => vs.toArray[i]? = some v) Fin k i ys news := by
  intro k
  induction k with
  | zero => exact fun i ys news e hJ => LCp.CompRestP.zero (fin ys news ((show i = vs.length from e) ▸ hJ))
  | succ k ih =>
    intro i ys news e hJ
    refine LCp.CompRestP.succ fun v hv => ?_
    obtain ⟨t, ot, v₁, v₂, nt, a, b, c, d, H⟩ := turn i v ys news (by simpa using hv) hJ
    refine ⟨t, ot, v₁, v₂, nt, a, b, c, d, fun I oI C oC D m₂ h tk E' q1 q2 q3 q4 q5 q6 q7 => wpAny_mono (H I oI C oC D m₂ h tk E' q1 q2 q3 q4 q5 q6 q7) (fun y s₂ h₂ => ?_) fun _ _ e => e⟩
    obtain ⟨h', tk', n', z1, z2, z3, z4, z5, z6⟩ := h₂
    exact ⟨h', tk', n', z1, z2, z3, z4, z5, ih (i + 1) (ys ++ [y]) n' (by omega) z6⟩
theorem comp_close {h₀ h' : Heap} {L I C D T : Addr} {m : Str → Option Value} {s₁ : Shared} {oI oC oD o : Obj} {S : List (Addr × Obj) → Prop} {rest : Value → List (Addr × Obj) → Prop} {tk : Nat} {news : List (Addr × Obj)}
    (F : Fr h₀ L h' m) (N : News h₀ L h' ((T, o) :: (I, oI) :: (C, oC) :: (D, oD) :: news)) (off : LCg.Off3 I C D news) (n1 : T ≠ I) (n2 : T ≠ C) (n3 : T ≠ D) (hS : S ((T, o) :: news)) (r : rest (.ref T) ((T, o) :: news)) :
    LCg.CompEnd h₀ L m s₁ I oI C oC D oD S rest (.ref T) { s₁ with heap := h', toks := tk } := by
  refine LCg.CompEnd.intro F N ((T, o) :: news) (fun p hp => ?_) ⟨⟨n1, n2, n3⟩, off⟩ hS r
  simp only [List.mem_cons] at hp ⊢
  rcases hp with h | h | h | h | h <;> simp [h]

end
section
example : True := by
  w_top off
  trivial
abbrev rowLed (rl dl ml pot : Addr) (rV dV mV : List Value) (nr nd nm : Nat) (x y : Int) (ta tb : Tok) (tl : List (Addr × Obj)) : List (Addr × Obj) :=
  (rl, listOf rV.toArray nr) :: (dl, listOf dV.toArray nd) :: (ml, listOf mV.toArray nm) :: (pot, potObj x y ta tb) :: tl
structure RowsOk (gs : List (Dat × Option Int)) (rV dV mV : List Value) (x y : Int) (tl : List (Addr × Obj)) (i : Nat) : Prop where
  tup : TupLed tl
  rows : Paired (IsPair tl) rV gs
  due : DatAll tl dV (onceL gs).1
  met : SelAll mV (onceL gs).2
  l0 : gs.length ≤ i
  l1 : dV.length ≤ i
  l2 : mV.length ≤ i
  pot : PotOk x y
def RowsJ (rl dl ml pot : Addr) (i : Nat) (m : Str → Option Value) (nx : List (Addr × Obj)) : Prop :=
  ∃ gs rV dV mV nr nd nm x y ta tb tl, nx = rowLed rl dl ml pot rV dV mV nr nd nm x y ta tb tl ∧ RowsOk gs rV dV mV x y tl i ∧
    m (Str.ofString "pot") = some (.ref pot) ∧ m (Str.ofString "rows") = some (.ref rl) ∧ m (Str.ofString "due") = some (.ref dl) ∧ m (Str.ofString "met") = some (.ref ml)

section
variable {w : World} {A : Around} {E : Value → Shared → Prop} {s : Shared} {env : Env} {g : Heap} {vn : Str} {body : List Stmt} {Q : Flow → Shared → Prop} {r₀ : Addr} {b₀ : Int} {t₀ u₀ v₀ ta tb : Tok} {n nr nd nm : Nat} {m₀ : Str → Option Value} {news : List (Addr × Obj)}
    {rl dl ml pot : Addr} {px py : Int}
theorem rows_loop (hh : A.handled = none) (hr : IsRange s.heap r₀ 0 b₀ 1 t₀ u₀ v₀) (hsmall : Builtin.Range.small 0 b₀ 1 = true) (hsz : Builtin.Range.rangeSize 0 b₀ 1 = (n : Int)) (F : Fr g env.locals s.heap m₀) (N : News g env.locals s.heap news)
    (h1 : (rl, listOf #[] nr) ∈ news) (h2 : (dl, listOf #[] nd) ∈ news) (h3 : (ml, listOf #[] nm) ∈ news) (h4 : (pot, potObj px py ta tb) ∈ news) (aps : Aps [rl, dl, ml, pot]) (ok : PotOk px py)
    (e1 : m₀ (Str.ofString "pot") = some (.ref pot)) (e2 : m₀ (Str.ofString "rows") = some (.ref rl)) (e3 : m₀ (Str.ofString "due") = some (.ref dl)) (e4 : m₀ (Str.ofString "met") = some (.ref ml))
    (turn : ∀ (i : Nat) (t : Tok) (m₁ : Str → Option Value) h tk' own gs rV dV mV nr nd nm px py ta tb tl, i < n →
      OwnOff own ((rowLed rl dl ml pot rV dV mV nr nd nm px py ta tb tl).map (·.1)) → RowsOk gs rV dV mV px py tl i →
      (∀ p ∈ tl ++ own, p.1 ≠ rl) → (∀ p ∈ tl ++ own, p.1 ≠ dl) → (∀ p ∈ tl ++ own, p.1 ≠ ml) → (∀ p ∈ tl ++ own, p.1 ≠ pot) →
      Fr g env.locals h (fun y => if y = vn then some (.int (0 + (i : Int)) t) else if y = Str.ofString "pot" then some (.ref pot) else if y = Str.ofString "rows" then some (.ref rl) else if y = Str.ofString "due" then some (.ref dl) else if y = Str.ofString "met" then some (.ref ml) else m₁ y) →
      News g env.locals h (rowLed rl dl ml pot rV dV mV nr nd nm px py ta tb (tl ++ own)) →
      wpAny (model PR w) A (execs body env) (InvPostG g env.locals (RowsJ rl dl ml pot (i + 1)) own { s with heap := h, toks := tk' } Q) E { s with heap := h, toks := tk' })
    (done : ∀ (m₁ : Str → Option Value) h tk' gs rV dV mV nr nd nm px py ta tb tl, RowsOk gs rV dV mV px py tl n →
      Fr g env.locals h (fun y => if y = Str.ofString "pot" then some (.ref pot) else if y = Str.ofString "rows" then some (.ref rl) else if y = Str.ofString "due" then some (.ref dl) else if y = Str.ofString "met" then some (.ref ml) else m₁ y) →
      News g env.locals h (rowLed rl dl ml pot rV dV mV nr nd nm px py ta tb tl) → Q .next { s with heap := h, toks := tk' }) :
    wpAny (model PR w) A (pyIter (.ref r₀)) (fun it s₂ => LoopAtV PR w A g env vn body Q E it s₂) E s := by
  have chain : ∀ m : Str → Option Value, m (Str.ofString "pot") = some (.ref pot) → m (Str.ofString "rows") = some (.ref rl) → m (Str.ofString "due") = some (.ref dl) → m (Str.ofString "met") = some (.ref ml) →
      (fun y => if y = Str.ofString "pot" then some (.ref pot) else if y = Str.ofString "rows" then some (.ref rl) else if y = Str.ofString "due" then some (.ref dl) else if y = Str.ofString "met" then some (.ref ml) else m y) = m := by
    intro m f1 f2 f3 f4
    funext y
    split
    · rename_i q; rw [q, f1]
    · split
      · rename_i q; rw [q, f2]
      · split
        · rename_i q; rw [q, f3]
        · split
          · rename_i q; rw [q, f4]
          · rfl
  refine range_loop (nx₀ := rowLed rl dl ml pot [] [] [] nr nd nm px py ta tb []) (fun i m nx => RowsJ rl dl ml pot i m nx) hh hr hsmall hsz F N ?_ ?_ ?_ ?_
  · exact allc ⟨h1, allc ⟨h2, allc ⟨h3, allc ⟨h4, List.forall_mem_nil _⟩⟩⟩⟩
  · exact ⟨[], [], [], [], nr, nd, nm, px, py, ta, tb, [], rfl, ⟨List.forall_mem_nil _, .nil, .nil, .nil, Nat.le_refl _, Nat.le_refl _, Nat.le_refl _, ok⟩, e1, e2, e3, e4⟩
  · rintro i t m₁ nx h tk' own hi hoff ⟨gs, rV, dV, mV, nr, nd, nm, px, py, ta, tb, tl, rfl, hst, f1, f2, f3, f4⟩ F₁ N₁
    have off : ∀ {d : Addr} {o : Obj}, (d, o) ∈ rowLed rl dl ml pot rV dV mV nr nd nm px py ta tb tl → o.cls = .type "list" → ∀ p ∈ tl ++ own, p.1 ≠ d := by
      intro d o hm hc p hp
      rcases List.mem_append.mp hp with q | q
      · exact offTup (fun p hp => N₁ p (List.mem_append_left _ hp)) hst.tup (fun p hp => .tail _ (.tail _ (.tail _ (.tail _ hp)))) hm (by rw [hc]; exact cls_ty (by decide)) p q
      · exact fun e => hoff p q d (List.mem_map.mpr ⟨_, hm, rfl⟩) e
    refine turn i t m₁ h tk' own gs rV dV mV nr nd nm px py ta tb tl hi hoff hst (off (.head _) rfl) (off (.tail _ (.head _)) rfl) (off (.tail _ (.tail _ (.head _))) rfl) (off (.tail _ (.tail _ (.tail _ (.head _)))) rfl) ?_ N₁
    have e : (fun y => if y = vn then some (Value.int (0 + (i : Int)) t) else if y = Str.ofString "pot" then some (.ref pot) else if y = Str.ofString "rows" then some (.ref rl) else if y = Str.ofString "due" then some (.ref dl) else if y = Str.ofString "met" then some (.ref ml) else m₁ y) = fun y => if y = vn then some (Value.int (0 + (i : Int)) t) else m₁ y := by
      funext y
      have := congrFun (chain m₁ f1 f2 f3 f4) y
      rw [this]
    rw [e]
    exact F₁
  · rintro m₁ nx h tk' ⟨gs, rV, dV, mV, nr, nd, nm, px, py, ta, tb, tl, rfl, hst, f1, f2, f3, f4⟩ F₁ N₁
    exact done m₁ h tk' gs rV dV mV nr nd nm px py ta tb tl hst (by rw [chain m₁ f1 f2 f3 f4]; exact F₁) N₁

theorem rows_end {L p a wh : Addr} {gs : List (Dat × Option Int)} {rV dV dV' mV : List Value} {tl own all : List (Addr × Obj)} {i : Nat} {h' : Heap} {tk' np na nw nr' nd' nm' nr₀ nd₀ nm₀ : Nat} {m' : Str → Option Value} {s₁ : Shared} {i1 i2 i3 x₀ y₀ : Int} {t1 t2 t3 u ta₀ tb₀ : Tok} {sv : Value}
    (ok : RowsOk gs rV dV mV x₀ y₀ tl i) (okp : PotOk px py) (F : Fr g L h' m') (N : News g L h' all)
    (mr : (rl, listOf (rV ++ [Value.ref p]).toArray nr') ∈ all) (md : (dl, listOf dV'.toArray nd') ∈ all) (mm : (ml, listOf (mV ++ [sv]).toArray nm') ∈ all) (mp : (pot, potObj px py ta tb) ∈ all)
    (hp : (p, tupOf #[.ref a, .ref wh] np) ∈ all) (ha : (a, tupOf #[.int i1 t1, .int i2 t2, .int i3 t3, sv] na) ∈ all) (hw : (wh, tupOf #[.str (Str.ofString "sent") u] nw) ∈ all) (htl : ∀ q ∈ tl, q ∈ all) (how : ∀ q ∈ own, q ∈ all)
    (off : OwnOff own ((rowLed rl dl ml pot rV dV mV nr₀ nd₀ nm₀ x₀ y₀ ta₀ tb₀ tl).map (·.1))) (lp : AllLt p (tl ++ own)) (la : AllLt a (tl ++ own)) (lw : AllLt wh (tl ++ own)) (sel : isSel sv = true)
    (hD : (dV' = dV ++ [Value.ref p] ∧ (oSel sv = none ∨ oSel sv ∉ (onceL gs).2)) ∨ (dV' = dV ∧ ¬ (oSel sv = none ∨ oSel sv ∉ (onceL gs).2)))
    (e1 : m' (Str.ofString "pot") = some (.ref pot)) (e2 : m' (Str.ofString "rows") = some (.ref rl)) (e3 : m' (Str.ofString "due") = some (.ref dl)) (e4 : m' (Str.ofString "met") = some (.ref ml)) :
    InvEndG g L (RowsJ rl dl ml pot (i + 1)) own s₁ { s₁ with heap := h', toks := tk' } := by
  obtain ⟨tup, rows, due, met, l0, l1, l2, _⟩ := ok
  have up : ∀ q ∈ tl, q ∈ (p, tupOf #[.ref a, .ref wh] np) :: (a, tupOf #[.int i1 t1, .int i2 t2, .int i3 t3, sv] na) :: (wh, tupOf #[.str (Str.ofString "sent") u] nw) :: tl := fun q hq => .tail _ (.tail _ (.tail _ hq))
  have dw : DatIn ((p, tupOf #[.ref a, .ref wh] np) :: (a, tupOf #[.int i1 t1, .int i2 t2, .int i3 t3, sv] na) :: (wh, tupOf #[.str (Str.ofString "sent") u] nw) :: tl) (.ref wh) (.tuple [.str (Str.ofString "sent")]) :=
    .tuple (vs := [.str (Str.ofString "sent") u]) (.tail _ (.tail _ (.head _))) (.cons (.str _ _) .nil)
  have pr : IsPair ((p, tupOf #[.ref a, .ref wh] np) :: (a, tupOf #[.int i1 t1, .int i2 t2, .int i3 t3, sv] na) :: (wh, tupOf #[.str (Str.ofString "sent") u] nw) :: tl) (.ref p)
      (.tuple [.tuple [.int i1, .int i2, .int i3, oDat sv], .tuple [.str (Str.ofString "sent")]], oSel sv) := by
    refine ⟨p, a, .ref wh, _, _, _, sv, np, na, _, _, _, _, rfl, .head _, .tail _ (.head _), sel, .int _ _, .int _ _, .int _ _, dw, rfl, rfl, rfl, rfl, rfl, ?_⟩
    show ([.str (Str.ofString "sent")] : List Dat).all (kqdOk 5) = true
    simp only [List.all_cons, List.all_nil, Bool.and_true]
    exact ok_sent
  have dr : DatIn ((p, tupOf #[.ref a, .ref wh] np) :: (a, tupOf #[.int i1 t1, .int i2 t2, .int i3 t3, sv] na) :: (wh, tupOf #[.str (Str.ofString "sent") u] nw) :: tl) (.ref p)
      (.tuple [.tuple [.int i1, .int i2, .int i3, oDat sv], .tuple [.str (Str.ofString "sent")]]) :=
    .tuple (vs := [.ref a, .ref wh]) (.head _) (.cons (.tuple (vs := [.int i1 t1, .int i2 t2, .int i3 t3, sv]) (.tail _ (.head _)) (.cons (.int _ _) (.cons (.int _ _) (.cons (.int _ _) (.cons (sel_dat sel) .nil))))) (.cons dw .nil))
  refine InvEndG.intro (nx := rowLed rl dl ml pot (rV ++ [.ref p]) dV' (mV ++ [sv]) nr' nd' nm' px py ta tb ((p, tupOf #[.ref a, .ref wh] np) :: (a, tupOf #[.int i1 t1, .int i2 t2, .int i3 t3, sv] na) :: (wh, tupOf #[.str (Str.ofString "sent") u] nw) :: tl)) F N
    ⟨gs ++ [(.tuple [.tuple [.int i1, .int i2, .int i3, oDat sv], .tuple [.str (Str.ofString "sent")]], oSel sv)], _, _, _, _, _, _, _, _, _, _, _, rfl, ⟨?_, ?_, ?_, ?_, ?_, ?_, ?_, okp⟩, e1, e2, e3, e4⟩ ?_ ?_ how
  · exact allc ⟨rfl, allc ⟨rfl, allc ⟨rfl, tup⟩⟩⟩
  · exact (paired_mono (fun _ _ h => h.mono up) rows).snoc pr
  · rw [onceL_snoc]
    unfold stepL
    rcases hD with ⟨rfl, c⟩ | ⟨rfl, c⟩
    · (try dsimp only)
      rw [if_pos c]
      exact (due.mono up).append (.one dr)
    · (try dsimp only)
      rw [if_neg c]
      exact due.mono up
  · rw [onceL_snoc]
    exact met.snoc ⟨sel, rfl⟩
  · simpa using l0
  · rcases hD with ⟨rfl, c⟩ | ⟨rfl, c⟩
    · simpa using l1
    · exact Nat.le_succ_of_le l1
  · simpa using l2
  · intro q hq b hb e
    obtain ⟨z, hz, rfl⟩ := List.mem_map.mp hb
    have o1 : ∀ z ∈ rowLed rl dl ml pot rV dV mV nr₀ nd₀ nm₀ x₀ y₀ ta₀ tb₀ tl, q.1 ≠ z.1 := fun z hz => off q hq z.1 (List.mem_map.mpr ⟨z, hz, rfl⟩)
    have lt : ∀ d, AllLt d (tl ++ own) → q.1 ≠ d := fun d h => allLt_ap h q (List.mem_append_right _ hq)
    rcases List.mem_cons.mp hz with rfl | hz
    · exact o1 _ (.head _) e
    rcases List.mem_cons.mp hz with rfl | hz
    · exact o1 _ (.tail _ (.head _)) e
    rcases List.mem_cons.mp hz with rfl | hz
    · exact o1 _ (.tail _ (.tail _ (.head _))) e
    rcases List.mem_cons.mp hz with rfl | hz
    · exact o1 _ (.tail _ (.tail _ (.tail _ (.head _)))) e
    rcases List.mem_cons.mp hz with rfl | hz
    · exact lt _ lp e
    rcases List.mem_cons.mp hz with rfl | hz
    · exact lt _ la e
    rcases List.mem_cons.mp hz with rfl | hz
    · exact lt _ lw e
    · exact o1 _ (.tail _ (.tail _ (.tail _ (.tail _ hz)))) e
  · exact allc ⟨mr, allc ⟨md, allc ⟨mm, allc ⟨mp, allc ⟨hp, allc ⟨ha, allc ⟨hw, htl⟩⟩⟩⟩⟩⟩⟩
end

end
section
example : True := by
  w_top off
  trivial
theorem ltS_alt {d : Addr} {l mu : List (Addr × Obj)} (L : LtS d l) (s : AllLt d l → AllLt d mu) : AllLt d mu := s L.h
example : True := by
  (k_with "MY alt" => first | with_reducible assumption | (refine' ltS_alt ?L_z ?s_z; (case L_z => with_reducible assumption); (case s_z => first | exact fun h => h | exact fun h => h.2 | exact fun h => h.2.2 | exact fun h => h.2.2.2 | exact fun h => h.2.2.2.2 | exact fun h => h.2.2.2.2.2 | exact fun h => h.2.2.2.2.2.2 | exact fun h => h.2.2.2.2.2.2.2 | exact fun h => h.2.2.2.2.2.2.2.2 | exact fun h => h.2.2.2.2.2.2.2.2.2)))
  trivial
theorem ne_dat {w : World} {A : Around} {E : Value → Shared → Prop} {s : Shared} {g : Heap} {L a b : Addr} {news : List (Addr × Obj)} {xs ys : List Value} {ka kb : Nat} {n₁ n₂ : List (Addr × Obj)} {ds : List Dat} {Q : Value → Shared → Prop} (N : News g L s.heap news)
    (ma : (a, listOf xs.toArray ka) ∈ news) (mb : (b, listOf ys.toArray kb) ∈ news) (da : DatAll n₁ xs ds) (sa : ∀ p ∈ n₁, p ∈ news) (db : DatAll n₂ ys ds) (sb : ∀ p ∈ n₂, p ∈ news) (ok : ∀ d ∈ ds, kqdOk 8 d = true) (hu : A.units + 64 < cLine) (h : Q (.bool false) s) :
    wpAny (model PR w) A (compareOp .NotEq (.ref a) (.ref b)) Q E s := by
  refine kqd_ne N ma rfl rfl da sa mb rfl rfl db sb ok ok hu ?_
  simpa using h
theorem eq_dat {w : World} {A : Around} {E : Value → Shared → Prop} {s : Shared} {g : Heap} {L a b : Addr} {news : List (Addr × Obj)} {xs ys : List Value} {ka kb : Nat} {n₁ n₂ : List (Addr × Obj)} {ds : List Dat} {Q : Value → Shared → Prop} (N : News g L s.heap news)
    (ma : (a, listOf xs.toArray ka) ∈ news) (mb : (b, listOf ys.toArray kb) ∈ news) (da : DatAll n₁ xs ds) (sa : ∀ p ∈ n₁, p ∈ news) (db : DatAll n₂ ys ds) (sb : ∀ p ∈ n₂, p ∈ news) (ok : ∀ d ∈ ds, kqdOk 8 d = true) (hu : A.units + 64 < cLine) (h : Q (.bool true) s) :
    wpAny (model PR w) A (compareOp .Eq (.ref a) (.ref b)) Q E s := by
  refine kqd_eq N ma rfl rfl da sa mb rfl rfl db sb ok ok hu ?_
  simpa using h
theorem News_sub {g h : Heap} {L : Addr} {a b : List (Addr × Obj)} (N : News g L h b) (hs : ∀ p ∈ a, p ∈ b) : News g L h a := fun p hp => N p (hs p hp)
theorem rowSub {f r d m t : Addr × Obj} {ex tl : List (Addr × Obj)} : ∀ p ∈ r :: t :: tl, p ∈ f :: (ex ++ r :: d :: m :: t :: tl) := by
  intro p hp
  simp only [List.mem_cons, List.mem_append] at hp ⊢
  rcases hp with h | h | h <;> simp [h]
theorem htl_of {ex tl : List (Addr × Obj)} {a b : Addr × Obj} {ys : List Value} {ds : List Dat} (_ : DatAll (ex ++ a :: b :: tl) ys ds) : ∀ q ∈ tl, q ∈ ex ++ a :: b :: tl := fun _ hq => List.mem_append_right _ (.tail _ (.tail _ hq))
theorem htl_of2 {ex2 led tl : List (Addr × Obj)} {d : Addr × Obj} {ys : List Value} {ds : List Dat} (h : ∀ q ∈ tl, q ∈ led) (_ : DatAll (ex2 ++ d :: led) ys ds) : ∀ q ∈ tl, q ∈ ex2 ++ d :: led := fun q hq => List.mem_append_right _ (.tail _ (h q hq))
def CJ (gs : List (Dat × Option Int)) (led : List (Addr × Obj)) (i : Nat) (ys : List Value) (news : List (Addr × Obj)) : Prop :=
  ∃ ex, news = ex ++ led ∧ TupLed ex ∧ DatAll (ex ++ led) ys ((gs.take i).map fun x => wakeD x.1)
theorem comp_step {gs : List (Dat × Option Int)} {led tl ex : List (Addr × Obj)} {i : Nat} {ys : List Value} {T : Addr} {nT : Nat} {u : Tok} {x1 x3 sv wv : Value} {d1 d2 d3 dw : Dat} {b : Dat × Option Int} (hb : gs[i]? = some b) (htl : ∀ q ∈ tl, q ∈ ex ++ led) (tx : TupLed ex) (hd : DatAll (ex ++ led) ys ((gs.take i).map fun x => wakeD x.1))
    (hsel : isSel sv = true) (c1 : DatIn tl x1 d1) (c3 : DatIn tl x3 d3) (cw : DatIn tl wv dw) (ed : b.1 = .tuple [.tuple [d1, d2, d3, oDat sv], dw]) :
    CJ gs led (i + 1) (ys ++ [Value.ref T]) ((T, tupOf #[.str (Str.ofString "woken") u, x1, x3, sv, wv] nT) :: (ex ++ led)) := by
  refine ⟨(T, tupOf #[.str (Str.ofString "woken") u, x1, x3, sv, wv] nT) :: ex, rfl, tx.cons, ?_⟩
  have e : gs.take (i + 1) = gs.take i ++ [b] := by simp [List.take_add_one, hb]
  have up : ∀ q ∈ ex ++ led, q ∈ (T, tupOf #[.str (Str.ofString "woken") u, x1, x3, sv, wv] nT) :: ex ++ led := fun q hq => .tail _ hq
  have ut : ∀ q ∈ tl, q ∈ (T, tupOf #[.str (Str.ofString "woken") u, x1, x3, sv, wv] nT) :: ex ++ led := fun q hq => .tail _ (htl q hq)
  rw [e, List.map_append]
  refine (hd.mono up).append (.one ?_)
  show DatIn _ _ (wakeD b.1)
  rw [ed]
  exact .tuple (vs := [.str (Str.ofString "woken") u, x1, x3, sv, wv]) (.head _) (.cons (.str _ _) (.cons (c1.mono ut) (.cons (c3.mono ut) (.cons (sel_dat hsel) (.cons (cw.mono ut) .nil)))))
example : True := by
  (k_with "MY hD" => first | exact .inl ⟨rfl, .inr (by assumption)⟩ | exact .inl ⟨rfl, .inl ((sel_none (by assumption)).mpr (by assumption))⟩ | exact .inr ⟨rfl, fun z => z.elim (fun q => absurd ((sel_none (by assumption)).mp q) (by assumption)) (fun q => q (by assumption))⟩)
  (k_with "MY sub" => with_reducible assumption)
  (k_with "MY subr" => first | exact fun _ h => List.mem_append_right _ h | (refine sub_cons ?_; k_extra "MY subr"))
  (k_with "call ref!" => (k_here; (with_reducible show wpAny _ _ (call (Value.ref 730) _) _ _ _); k_dflt (refine' call_oneV ?k1_z ?k2_z ?k3_z ?k4_z ?k5_z ?U_z ?hl_z ?hne_z ?hf_z ?hk_z ?hr_z ?hu_z ?p1_z ?p4_z ?p5_z ?p6_z ?_; (case hf_z => exact rfl); (case hk_z => exact rfl); (case k1_z => k_asm); (case k2_z => k_asm); (case k3_z => k_asm); (case k4_z => k_asm); (case k5_z => k_asm); (case hl_z => k_mem); (case hne_z => k_ne); (case U_z => k_updF); (case hr_z => k_extra "MY room"); (case hu_z => k_extra "MY room"); (case p1_z => k_asm); (case p4_z => exact Nat.le_of_ble_eq_true rfl); (case p5_z => exact Nat.le_of_ble_eq_true rfl); (case p6_z => exact rfl); k_whole); intro v' h' tk' a' ta' b' tb' sel' F' N' ok'; (try dsimp only at N'); (try k_sweep)))
  (k_with "call type:range!" => ((rename Fr _ _ _ _ => F'); (rename News _ _ _ _ => N'); (with_unfolding_all refine range1_rows F' N' ?_; intro _ _ _ _ _ _ _ _ _)))
  (k_with "compareOp Is!" => (k_here; (with_reducible show wpAny _ _ (compareOp CmpOp.Is _ Value.none) _ _ _); k_dflt (refine' is_sel ?a_z ?_ ?_; (case a_z => with_reducible assumption); (focus (intro e')); rotate_left; (focus (intro e')); rotate_left)))
  (k_with "compareOp NotIn!" => (k_here; (with_reducible show wpAny _ _ (compareOp CmpOp.NotIn _ (Value.ref _)) _ _ _); k_dflt (refine' notin_sel ?N_z ?ma_z ?hs_z ?hv_z ?hu_z ?_ ?_; (case N_z => k_asm); (case ma_z => k_mem); (case hs_z => with_reducible assumption); (case hv_z => k_asm); (case hu_z => ke_room); (focus (intro e')); rotate_left; (focus (intro e')); rotate_left)))
  trivial
set_option rowWalk.seconds 0 in
set_option maxRecDepth 100000 in
set_option maxHeartbeats 8000000 in
theorem rows_spec {w : World} {mean : ExcName → Option Value} {mg mb : Str → Option Value} {dp un : Nat} {gd : Option (List Code)} {base g : Heap} {fs : List Env} {s : Shared}
    {pot : Addr} {a b : Int} {ta tb : Tok} (G : Gd w mean mg mb ⟨none, dp, some fs, gd, un⟩ base fs g) (hx : Ext g s.heap)
    (hroom : dp ≤ 800) (hun : un ≤ 8000) (ok : PotOk a b)
    (N : NewsG g s.heap [(pot, potObj a b ta tb)]) :
    codeAny (model PR w) ⟨none, dp, some fs, gd, un⟩ (.call (.ref 754) ⟨[.ref pot], []⟩)
      (Done s g (fun v h' => v = .bool true ∧ ∃ a' b' ta' tb', PotOk a' b' ∧ h'.get? pot = some (potObj a' b' ta' tb'))) s := by
  refine unbx ?_
  simp (discharger := (k_dflt (
      refine' enterG (binds := [(Str.ofString "pot", .ref pot)]) G hx N ?k6 ?k7 ?k8 ?k9 ?kB ?_ ?c2 ?c3 ?c4 ?c5
      case k6 => k_is
      case k7 => k_is
      case k8 => exact Nat.lt_of_le_of_lt hroom (by decide)
      case k9 => exact BindsTo.of_eq rfl
      case kB => exact locs rfl
      case c2 => exact rfl
      case c3 => exact rfl
      case c4 => exact rfl
      case c5 => decide
      intro L' h' F' N'
      have B' := G.B
      have X' := G.X
      have T' := G.T
      clear N hx
      try dsimp only
      (try k_fold)
      repeat' ((fail_if_success (with_reducible show wpAny _ _ (pyIter _) _ _ _)); k_extra "MY step")
      rename IsRange _ _ _ _ _ _ _ _ => R9
      rename Fr _ _ _ _ => F9
      rename News _ _ _ _ => N9
      refine' rows_loop ?hh R9 ?hs ?hz F9 N9 ?h1 ?h2 ?h3 ?h4 ?aps ?ok ?e1 ?e2 ?e3 ?e4 ?turn ?done
      case e1 => exact rfl
      case e2 => exact rfl
      case e3 => exact rfl
      case e4 => exact rfl
      case h1 => k_mem
      case h2 => k_mem
      case h3 => k_mem
      case h4 => k_mem
      case ok => assumption
      case hz => exact rangeSize_nat _ _
      case hs => exact small_one (by omega) (by omega) (by omega) (by omega)
      case hh => exact rfl
      case aps => (repeat' (first | exact True.intro | exact List.forall_mem_nil _ | refine And.intro ?_ ?_ | refine allc ?_ | exact ⟨by k_ne⟩))
      case turn =>
        intro i t m₁ h tk' own gs rV dV mV nr nd nm px py ta tb tl hi off st offR offD offM offP F10 N10
        have hi' : i ≤ 6 := by omega
        have st' := st
        obtain ⟨tup, rws, due, met, l0, l1, l2, okp⟩ := st'
        have l3 : rV.length ≤ i := by rw [paired_len rws]; exact l0
        have l1' : dV.length ≤ 1000 := by omega
        have l2' : mV.length ≤ 1000 := by omega
        have l3' : rV.length ≤ 1000 := by omega
        clear F9 N9
        simp only [rowLed] at N10
        repeat' ((fail_if_success (with_reducible show InvEndG _ _ _ _ _ _)); k_extra "MY step")
        all_goals (rename Fr _ _ _ _ => F11; rename News _ _ _ _ => N11; k_extra "MY split")
        all_goals (refine' rows_end st ?okp F11 N11 ?mr ?md ?mm ?mp ?hp ?ha ?hw ?htl ?how off ?lp ?la ?lw ?sel ?hD ?e1 ?e2 ?e3 ?e4; (case mr => k_mem); (case md => k_mem); (case mm => k_mem); (case mp => k_mem); (case hp => k_mem); (case ha => k_mem); (case hw => k_mem); (case okp => assumption); (case htl => k_extra "MY sub"); (case how => k_extra "MY subr"); (case lp => k_extra "MY alt"); (case la => k_extra "MY alt"); (case lw => k_extra "MY alt"); (case sel => assumption); (case e1 => exact rfl); (case e2 => exact rfl); (case e3 => exact rfl); (case e4 => exact rfl); (case hD => k_extra "MY hD"))
      case done =>
        intro m₁ h tk' gs rV dV mV nr nd nm px py ta tb tl st F10 N10
        have st' := st
        obtain ⟨tup, rws, due, met, l0, l1, l2, okp⟩ := st'
        have hg : gs.length ≤ 100 := by omega
        have hrl : rV.length = gs.length := paired_len rws
        clear F9 N9
        simp only [rowLed] at N10
        repeat' ((fail_if_success (with_reducible show wpAny _ _ (call (Value.ref 364) _) _ _ _)); k_extra "MY step")
        refine call_once B' X' T' F10 N10 (.head _) (by k_extra "MY sub") rws hg tup rfl rfl (by k_extra "MY room") (by k_extra "MY room") ?_
        clear F10 N10
        intro h' tk'' fl fV nf ex F11 N11 hd
        repeat' ((fail_if_success (with_reducible show wpAny _ _ (compareOp CmpOp.NotEq (Value.ref _) _) _ _ _)); k_extra "MY step")
        refine ne_dat N11 (.head _) (.tail _ (List.mem_append_right _ (.tail _ (.head _)))) hd (fun _ h => .tail _ h) (once_eq gs ▸ due) (fun _ h => .tail _ (List.mem_append_right _ (.tail _ (.tail _ (.tail _ (.tail _ h)))))) (onceK_ok rws) (by ke_room) ?_
        have N12 := News_sub N11 (fun p hp => (rowSub p hp : p ∈ (fl, listOf fV.toArray nf) :: (ex ++ rowLed _ _ _ pot rV dV mV nr nd nm px py ta tb tl)))
        clear N11
        repeat' ((fail_if_success (with_reducible show wpAny _ _ (exec (Stmt.Assign _ (Expr.ListComp _ _ _ _) _) _) _ _ _)); k_extra "MY step")
        refine LCp.Assign_ListComp_P (F₀ := F11) (by rfl) (by with_unfolding_all rfl) (by with_unfolding_all rfl) (by decide) (by rfl) (by decide) (by rfl) (by rfl) (by decide) (by rfl) (by rfl) ?_
        repeat' ((fail_if_success (with_reducible show LCp.SrcLP _ _ _ _ _ _ _ _ _ _ _ _ _ _ _)); k_extra "MY step")
        refine LCp.SrcLP.ledger (its := rV.toArray) (k := nr) rfl F11 N12 (.head _) (by rw [PySem.sizeLine_eq]; simp only [List.size_toArray]; omega) ?_
        intro g1
        refine comp_indP (CJ gs _) ?_ ?_ _ 0 [] _ (by simp) ⟨[], rfl, List.forall_mem_nil _, by simpa using DatAll.nil⟩
        · intro i v ys news hv hJ
          obtain ⟨ex1, rfl, tx, hd1⟩ := hJ
          obtain ⟨b1, hb1, pr⟩ := paired_get rws hv
          obtain ⟨p, a, wv, x1, x2, x3, sv, n1, n2, d1, d2, d3, dw, rfl, hm1, hm2, hsel, c1, c2, c3, cw, ed, es, _⟩ := pr
          have htl := htl_of hd1
          refine ⟨p, _, _, _, n1, rfl, htl _ hm1, rfl, rfl, ?_⟩
          intro I oI C oC D m₂ h tk E' hC hx hy F13 N13 off ne
          clear F11 N12
          repeat' ((fail_if_success (with_reducible show LCg.CompEnd _ _ _ _ _ _ _ _ _ _ _ _ _ _)); k_extra "MY step")
          rename Fr _ _ _ _ => F14
          rename News _ _ _ _ => N14
          exact comp_close F14 N14 off (by k_ne) (by k_ne) (by k_ne) (.inr ⟨_, .tail _ (List.mem_append_right _ (.head _)), rfl, _, rfl⟩) (comp_step hb1 htl tx hd1 hsel c1 c3 cw ed)
        · intro ys1 news1 hJ1
          obtain ⟨ex1, rfl, tx1, hd1⟩ := hJ1
          rw [hrl, List.take_length] at hd1
          have htl := htl_of hd1
          show LCg.FinA _ _ _ _ _ _ _ _
          intro D1 h13 tk13 F13 N13 o13
          clear F11 N12
          dsimp only
          repeat' ((fail_if_success (with_reducible show wpAny _ _ (eval (Expr.ListComp _ _ _ _) _) _ _ _)); k_extra "MY step")
          refine LCp.ListComp_P (F₀ := F13) (by with_unfolding_all rfl) (by decide) (by rfl) (by decide) (by rfl) (by rfl) (by decide) ?_
          repeat' ((fail_if_success (with_reducible show LCp.SrcLP _ _ _ _ _ _ _ _ _ _ _ _ _ _ _)); k_extra "MY step")
          refine LCp.SrcLP.ledger (its := rV.toArray) (k := nr) rfl F13 N13 (.tail _ (List.mem_append_right _ (.head _))) (by rw [PySem.sizeLine_eq]; simp only [List.size_toArray]; omega) ?_
          intro g2
          refine comp_indP (CJ gs _) ?_ ?_ _ 0 [] _ (by simp) ⟨[], rfl, List.forall_mem_nil _, by simpa using DatAll.nil⟩
          · intro i v ys news hv hJ
            obtain ⟨ex2, rfl, tx, hd2⟩ := hJ
            have htl2 := htl_of2 htl hd2
            obtain ⟨b1, hb1, pr⟩ := paired_get rws hv
            obtain ⟨p, a, wv, x1, x2, x3, sv, n1, n2, d1, d2, d3, dw, rfl, hm1, hm2, hsel, c1, c2, c3, cw, ed, es, _⟩ := pr
            refine ⟨p, _, _, _, n1, rfl, htl2 _ hm1, rfl, rfl, ?_⟩
            intro I oI C oC D m₂ h tk E' hC hx hy F15 N15 off ne
            clear F13 N13
            repeat' ((fail_if_success (with_reducible show LCg.CompEnd _ _ _ _ _ _ _ _ _ _ _ _ _ _)); k_extra "MY step")
            rename Fr _ _ _ _ => F16
            rename News _ _ _ _ => N16
            exact comp_close F16 N16 off (by k_ne) (by k_ne) (by k_ne) (.inr ⟨_, .tail _ (List.mem_append_right _ (.tail _ (List.mem_append_right _ (.head _)))), rfl, _, rfl⟩) (comp_step hb1 htl2 tx hd2 hsel c1 c3 cw ed)
          · intro ys2 news2 hJ2
            obtain ⟨ex2, rfl, tx2, hd2⟩ := hJ2
            rw [hrl, List.take_length] at hd2
            show LCg.FinE _ _ _ _ _ _ _
            intro D2 h15 tk15 F15 N15 o15
            clear F13 N13
            dsimp only
            repeat' ((fail_if_success (with_reducible show wpAny _ _ (compareOp CmpOp.Eq (Value.ref _) _) _ _ _)); k_extra "MY step")
            refine eq_dat N15 (.head _) (.tail _ (List.mem_append_right _ (.head _))) hd2 (fun _ h => .tail _ h) hd1 (fun _ h => .tail _ (List.mem_append_right _ (.tail _ h))) (wake_ok rws) (by ke_room) ?_
            repeat' (k_extra "MY step")
            all_goals (try dsimp only)
            rename Fr _ _ _ _ => F17
            rename News _ _ _ _ => N17
            exact Done.of F17 ⟨rfl, px, py, ta, tb, okp, N17.get (.tail _ (List.mem_append_right _ (.tail _ (List.mem_append_right _ (.tail _ (.head _))))))⟩))) only [↓bx]

end
section
example : True := by
  w_top off
  k_with_none
  (k_with "ite!" => with_reducible (first | refine itT ?_ | refine itF ?_ | refine itNT ?_ | refine itNF ?_))
  (k_with "subscriptTail Name Constant ref str!" => (k_here; k_dflt (refine' itemN (knd := PySem.strKind _ _) ?N_z ?m_z ?d_z (strKind_is _ _ _ _) ?r_z ?_ ?s_z ?g_z; (case N_z => k_asm); (case m_z => k_mem); (case d_z => k_asm); (case r_z => rfl); (case s_z => with_unfolding_all rfl); (case g_z => (intro _; with_unfolding_all rfl)))))
  (k_with "subscriptTail Name Constant ref int!" => (k_here; first | k_extra "subscriptTail!" | k_dflt (refine' item_tupleT ?t_z ?a_z ?b_z ?c_z ?d_z ?_; (case t_z => exact News.isTup (by k_asm) (by k_mem)); (case a_z => decide); (case b_z => decide); (case c_z => rfl); (case d_z => rfl); k_whole)))
  (k_with "eval Name!" => (k_here; k_dflt (refine' nameX_L ?F_z ?v_z ?_ ?a_z ?b_z; (case F_z => k_asm); (case a_z => rfl); (case b_z => rfl); (case v_z => rfl); k_whole)))
  (k_with "exec Assign!" => ((with_reducible show wpAny _ _ (exec (Stmt.Assign [Expr.Name _ _] _ _) _) _ _ _); with_reducible refine wpAny_Assign_Name ?_))
  (k_with "MY rd" => first | exact RdArgs.nil | (refine' RdArgs.name ?x_z ?d_z ?v_z ?r_z; (case x_z => rfl); (case d_z => decide); (case v_z => rfl); (case r_z => k_extra "MY rd")) | (refine' RdArgs.str ?r_z; (case r_z => k_extra "MY rd")) | (refine' RdArgs.int ?r_z; (case r_z => k_extra "MY rd")) | (refine' RdArgs.bool ?r_z; (case r_z => k_extra "MY rd")) | (refine' RdArgs.non ?r_z; (case r_z => k_extra "MY rd")))
  (k_with "spliced!" => (k_here; (first | with_reducible show wpAny _ _ (spliced (backTo _ (starEach (Expr.Name _ _ :: _) _))) _ _ _ | with_reducible show wpAny _ _ (spliced (backTo _ (starEach (Expr.Constant _ _ _ :: _) _))) _ _ _); k_dflt (refine' args_rd ?F_z ?k_z ?r_z ?_; (case F_z => k_asm); (case k_z => rfl); (case r_z => k_extra "MY rd"); k_whole); (try dsimp only [List.cons_append, List.nil_append])))
  (k_with "eval Constant str!" => with_reducible refine const_str ?_)
  (k_with "eval Constant int!" => with_reducible refine const_int ?_)
  (k_with "storeName!" => (k_here; k_dflt (refine' storeN ?F_z ?N_z ?_ ?a_z ?b_z; (case F_z => k_asm); (case N_z => k_asm); (case a_z => rfl); (case b_z => rfl); k_whole; intro hq' Fq' Nq'; (try k_sweep))))
  (k_with "unpackItems ref!" => (k_here; k_dflt (refine' unpackN ?k1_z ?k2_z ?k3_z ?k4_z ?k5_z ?_; (case k1_z => k_asm); (case k2_z => k_asm); (case k3_z => kun_tup); (case k4_z => exact rfl); (case k5_z => exact rfl); k_whole); intro hq' Fq' Nq'; (try k_sweep)))
  (k_with "newTuple cons!" => (k_here; (with_reducible show wpAny _ _ (newTuple [_, _]) _ _ _); k_dflt (first | (refine' tupTo2 ?F_z ?N_z ?k_z ?x_z ?y_z ?hh_z ?_; (case F_z => k_asm); (case N_z => k_asm); (case k_z => rfl); (case x_z => rfl); (case y_z => rfl); (case hh_z => exact rfl); k_whole) | (refine' tupTo2s ?F_z ?N_z ?t_z ?k_z ?x_z ?y_z ?hh_z ?_; (case F_z => k_asm); (case N_z => k_asm); (case t_z => with_unfolding_all rfl); (case k_z => rfl); (case x_z => rfl); (case y_z => rfl); (case hh_z => exact rfl); k_whole)); intro hq' Fq' Nq'; (try k_sweep)))
  (k_with "eval Subscript!" => (k_here; (with_reducible show wpAny _ _ (eval (Expr.Subscript (Expr.Name _ _) (Expr.Constant (Const.str _) _ _) _) _) _ _ _); k_dflt (refine' subName ?F_z ?N_z ?k_z ?x_z ?b_z ?v_z ?p_z ?o_z ?l_z ?_; (case F_z => k_asm); (case N_z => k_asm); (case k_z => rfl); (case x_z => rfl); (case b_z => decide); (case v_z => rfl); (case p_z => k_mem); (case o_z => k_asm); (case l_z => rfl); k_whole)))
  (k_with "execs cons!" => (k_here; (first | (with_reducible refine execs_gen ?_; intro tq') | with_reducible refine wpAny_execs_cons ?_); (try k_fold)))
  trivial
/-- a tuple of an int and a tuple of ints, as a dict's key -/
def IsNest (w : World) (h : Heap) (k : Int × List Int) (a : Addr) : Prop :=
  ∃ o t b n, h.get? a = some o ∧ o.cls = .type "tuple" ∧ o.data = .seq #[.int k.1 t, .ref b] n ∧ IsTupleKey (intKind PR w) h k.2 b
theorem IsNest.typeIs {w : World} {s : Shared} {k : Int × List Int} {a : Addr} (x : IsNest w s.heap k a) : s.TypeIs (.ref a) "tuple" := let ⟨o, _, _, _, ho, hc, _⟩ := x; ⟨o, ho, hc⟩
theorem IsNest.inj {w : World} {h : Heap} {a : Addr} {x y : Int × List Int} (hx : IsNest w h x a) (hy : IsNest w h y a) : x = y := by
  obtain ⟨o, t, b, n, ho, _, hd, hi⟩ := hx
  obtain ⟨o', t', b', n', ho', _, hd', hi'⟩ := hy
  obtain rfl : o = o' := Option.some.inj (ho.symm.trans ho')
  rw [hd] at hd'
  have e := hd'
  injection e with h1 _
  have e2 : ([Value.int x.1 t, Value.ref b] : List Value) = [Value.int y.1 t', Value.ref b'] := by
    have := congrArg Array.toList h1
    simpa using this
  simp only [List.cons.injEq, Value.int.injEq, Value.ref.injEq, and_true] at e2
  obtain ⟨⟨e3, _⟩, e4⟩ := e2
  subst e4
  exact Prod.ext e3 (hi.inj hi')
theorem IsNest.keeps {w : World} {h h' : Heap} {k : Int × List Int} {a d : Addr} {o : Obj} {es ep} (x : IsNest w h k a) (ho : h.get? d = some o) (hd : o.data = .dict es ep) (hs : Heap.SameBut d h h') : IsNest w h' k a := by
  obtain ⟨o', t, b, n, ho', hc, hd', hi⟩ := x
  have hne : a ≠ d := by
    rintro rfl
    obtain rfl : o' = o := Option.some.inj (ho'.symm.trans ho)
    rw [hd] at hd'; exact nomatch hd'
  exact ⟨o', t, b, n, (hs.2 a hne).trans ho', hc, hd', hi.keeps ho hd hs⟩
theorem int_is {w : World} (i : Int) (t : Tok) : (intKind PR w).is i (.int i t) = true := by
  show Value.isInt i (.int i t) = true
  simp [Value.isInt]
noncomputable def nestHash (w : World) (k : Int × List Int) : Int := reduceHash (Builtin.Tuple.tupleHashOf [(intKind PR w).hash k.1, tupleKeyHash (intKind PR w) k.2])

section
variable {w : World} {A : Around} {E : Value → Shared → Prop} {s : Shared}
theorem nest_hash {k : Int × List Int} {a : Addr} {Q : Int → Shared → Prop} (hu : A.units + 8 < cLine) (hk : IsNest w s.heap k a) (h : Q (nestHash w k) { s with toks := s.toks + (k.2.length + 3) }) :
    wpAny (model PR w) A (pyHash (.ref a)) Q E s := by
  have hT := hk.typeIs
  obtain ⟨o, t, b, n, ho, _, hd, hi⟩ := hk
  unfold pyHash
  first | unfold pyHashByItsType | skip
  first | refine wpAny_bind (wpAny_cRoomFor_or (.inr (by omega)) ?_) | skip
  refine wpAny_bind (wpAny_specialOf hT F.slot_tuple_hash.lookup ?_)
  show wpAny _ _ (if (some (Value.builtin "tuple.__hash__") == some Value.none) = true then _ else _) Q E s
  rw [if_neg (by rw [beq_builtin_none]; exact Bool.false_ne_true)]
  refine wpAny_bind (wpAny_specialOf hT F.slot_tuple_hash.lookup ?_)
  show wpAny _ _ (callSpecialIfBoundUnlessNone? (.ref a) "__hash__" _ >>= _) Q E s
  refine wpAny_bind (wpAny_callSpecialIfBoundUnlessNone?_slot hT F.slot_tuple_hash (wpAny_call_entry F.slot_tuple_hash hT F.entry_tuple_hash ?_ (F.args_tuple_hash_1 _)))
  show wpAny _ _ (Builtin.Tuple.tupleItemsOf (.ref a) >>= _) _ _ s
  refine wpAny_bind (wpAny_tupleItemsOf ho hd ?_)
  refine wpAny_bind ?_
  rw [← Array.forIn_toList]
  refine wpAny_forIn_list _
    (fun rest (bs : Array Int) s' => (rest = [.int k.1 t, .ref b] ∧ bs.toList = [] ∧ s' = s) ∨ (rest = [.ref b] ∧ bs.toList = [(intKind PR w).hash k.1] ∧ s' = { s with toks := s.toks + 1 }) ∨
      (rest = [] ∧ bs.toList = [(intKind PR w).hash k.1, tupleKeyHash (intKind PR w) k.2] ∧ s' = { s with toks := s.toks + 1 + (k.2.length + 1) }))
    _ ?_ ?_ _ _ (.inl ⟨rfl, rfl, rfl⟩)
  · rintro x rest bs s' (⟨e, hb, rfl⟩ | ⟨e, hb, rfl⟩ | ⟨e, hb, rfl⟩)
    · cases e
      refine wpAny_bind ((intKind PR w).pyHash (k := k.1) (int_is k.1 t) ?_)
      first
        | exact wpAny_pure (.inr (.inl ⟨rfl, by simp [hb], rfl⟩))
        | exact wpAny_bind (wpAny_pure (wpAny_pure (.inr (.inl ⟨rfl, by simp [hb], rfl⟩))))
    · cases e
      refine wpAny_bind (wpAny_pyHash_tuple (ks := k.2) ?_ hi ?_)
      · show A.units + 1 < cLine
        omega
      first
        | exact wpAny_pure (.inr (.inr ⟨rfl, by simp [hb], rfl⟩))
        | exact wpAny_bind (wpAny_pure (wpAny_pure (.inr (.inr ⟨rfl, by simp [hb], rfl⟩))))
    · cases e
  · rintro bs s' (⟨e, hb, rfl⟩ | ⟨e, hb, rfl⟩ | ⟨e, hb, rfl⟩)
    · cases e
    · cases e
    · show wpAny _ _ (retInt (Builtin.Tuple.tupleHashOf bs.toList)) _ _ _
      rw [hb]
      refine wpAny_ret_mkInt ?_
      show wpAny _ _ (if (decide (-(2 : Int) ^ 63 ≤ Builtin.Tuple.tupleHashOf _) && decide (Builtin.Tuple.tupleHashOf _ < 2 ^ 63)) = true then _ else _) Q E _
      unfold nestHash reduceHash at h
      have e : s.toks + (k.2.length + 3) = s.toks + 1 + (k.2.length + 1) + 1 := by omega
      by_cases hr : (decide (-(2 : Int) ^ 63 ≤ Builtin.Tuple.tupleHashOf [(intKind PR w).hash k.1, tupleKeyHash (intKind PR w) k.2]) && decide (Builtin.Tuple.tupleHashOf [(intKind PR w).hash k.1, tupleKeyHash (intKind PR w) k.2] < 2 ^ 63)) = true
      · rw [if_pos hr]
        rw [if_pos hr, e] at h
        exact wpAny_pure h
      · rw [if_neg hr]
        rw [if_neg hr, e] at h
        exact wpAny_bind (wpAny_rule (wpAny_pure h))

theorem int_eq {x y : Int} {t u : Tok} {Q : Bool → Shared → Prop} (h : Q (decide (x = y)) s) : wpAny (model PR w) A (eqBool (.int x t) (.int y u)) Q E s := (intKind PR w).eqBool (a := x) (b := y) (int_is x t) (int_is y u) h

theorem nest_eq_tree {x y : Int × List Int} {a b : Addr} {P : Fin → Shared → Prop} (hu : A.units + 8 < cLine) (hx : IsNest w s.heap x a) (hy : IsNest w s.heap y b) (h : P (.done (.ret (.bool (decide (x = y))))) s) :
    wpAny (model PR w) A (Builtin.«tuple.__eq__» ⟨[.ref a, .ref b], []⟩) P E s := by
  have hTb := hy.typeIs
  obtain ⟨oa, ta, ra, na, hoa, _, hda, hia⟩ := hx
  obtain ⟨ob, tb, rb, nb, hob, _, hdb, hib⟩ := hy
  show wpAny _ _ (isInstance (.ref b) (.type "tuple") >>= _) _ _ s
  refine wpAny_bind (wpAny_isInstance hTb isSubtype_tuple_tuple ?_)
  simp only [Bool.not_true, Bool.false_eq_true, if_false]
  refine wpAny_bind (wpAny_tupleItemsOf hoa hda ?_)
  refine wpAny_bind (wpAny_tupleItemsOf hob hdb ?_)
  refine wpAny_bind ?_
  refine wpAny_forIn_list _
    (fun rest r s' => r.1 = none ∧ s' = s ∧ ((rest = [(Value.int x.1 ta, Value.int y.1 tb), (Value.ref ra, Value.ref rb)]) ∨ (x.1 = y.1 ∧ rest = [(Value.ref ra, Value.ref rb)]) ∨ (x = y ∧ rest = [])))
    _ ?_ ?_ _ _ ⟨rfl, rfl, .inl rfl⟩
  · rintro ⟨u, v⟩ rest r s' ⟨hr, rfl, (e | ⟨e1, e⟩ | ⟨e1, e⟩)⟩
    · cases e
      refine wpAny_bind (int_eq ?_)
      by_cases hk : x.1 = y.1
      · rw [decide_eq_true hk]
        simp only [Bool.not_true, Bool.false_eq_true, if_false]
        exact wpAny_pure ⟨rfl, rfl, .inr (.inl ⟨hk, by first | rfl | trivial⟩)⟩
      · rw [decide_eq_false hk]
        simp only [Bool.not_false, if_true]
        have hf : decide (x = y) = false := by simp; intro e; exact hk (congrArg Prod.fst e)
        rw [hf] at h
        exact wpAny_bind (wpAny_pure (wpAny_pure (wpAny_pure h)))
    · cases e
      refine wpAny_bind (wpAny_eqBool_tuple ?_ hia hib ?_)
      · omega
      by_cases hk : x.2 = y.2
      · rw [decide_eq_true hk]
        simp only [Bool.not_true, Bool.false_eq_true, if_false]
        exact wpAny_pure ⟨rfl, rfl, .inr (.inr ⟨Prod.ext e1 hk, by first | rfl | trivial⟩)⟩
      · rw [decide_eq_false hk]
        simp only [Bool.not_false, if_true]
        have hf : decide (x = y) = false := by simp; intro e; exact hk (congrArg Prod.snd e)
        rw [hf] at h
        exact wpAny_bind (wpAny_pure (wpAny_pure (wpAny_pure h)))
    · cases e
  · rintro ⟨r1, r2⟩ s' ⟨hr, rfl, (e | ⟨e1, e⟩ | ⟨e1, e⟩)⟩
    · cases e
    · cases e
    · simp only at hr
      subst hr
      refine wpAny_pure ?_
      show P (.done (.ret (.bool _))) s'
      rw [decide_eq_true e1] at h
      exact h

theorem nest_eq {x y : Int × List Int} {a b : Addr} {Q : Bool → Shared → Prop} (hu : A.units + 16 < cLine) (hx : IsNest w s.heap x a) (hy : IsNest w s.heap y b) (h : Q (decide (x = y)) s) :
    wpAny (model PR w) A (eqBool (.ref a) (.ref b)) Q E s := by
  unfold eqBool
  try with_reducible refine wpAny_holding ?_
  show wpAny _ _ (if (Value.ref a == Value.ref b) = true then _ else _) Q E s
  by_cases hab : (Value.ref a == Value.ref b) = true
  · rw [if_pos hab]
    have e : a = b := by have := eq_of_beq hab; injection this
    subst e
    obtain rfl := hx.inj hy
    exact wpAny_bind (wpAny_rule (wpAny_pure (by simpa using h)))
  · rw [if_neg hab]
    exact wpAny_bind (wpAny_richCompare_same_room (op := .Eq) hx.typeIs hy.typeIs F.slot_tuple_eq
      (wpAny_call_entry F.slot_tuple_eq hx.typeIs F.entry_tuple_eq (nest_eq_tree (by show A.units + 1 + 8 < cLine; omega) hx hy ⟨_, rfl, (fun e => nomatch e), wpAny_truthy_bool h⟩) (F.args_tuple_eq_2 _ _)) (by omega))

theorem quiet_tuple {js : List Int} {a : Addr} {n : Nat} {Q : Bool → Shared → Prop} (hk : IsTupleKey (intKind PR w) s.heap js a) (h : Q true s) : wpAny (model PR w) A (eqIsQuiet (n + 1) (.ref a)) Q E s := by
  have hT := hk.typeIs
  obtain ⟨o, items, m, ho, _, hd, hi⟩ := hk
  unfold eqIsQuiet
  refine wpAny_bind (wpAny_specialOf hT F.slot_tuple_eq.lookup ?_)
  show wpAny _ _ (isInstance (.ref a) (.type "tuple") >>= _) _ _ s
  refine wpAny_bind (wpAny_isInstance hT isSubtype_tuple_tuple ?_)
  simp only [Bool.not_true, Bool.false_eq_true, if_false]
  refine wpAny_bind (wpAny_seqItems ho hd ?_)
  refine wpAny_bind ?_
  show wpAny _ _ (forIn items _ _) _ _ s
  rw [← Array.forIn_toList]
  refine wpAny_forIn_list _ (fun rest r s' => r.1 = none ∧ s' = s ∧ ∀ v ∈ rest, carriedByValue v = true) _ ?_ ?_ _ _ ⟨rfl, rfl, hi.byValue⟩
  · rintro v rest r s' ⟨hr, rfl, hall⟩
    rw [eqIsQuiet_byValue _ (hall v List.mem_cons_self)]
    refine wpAny_bind (wpAny_pure ?_)
    simp only [Bool.not_true, Bool.false_eq_true, if_false]
    exact wpAny_pure ⟨rfl, rfl, fun u hu' => hall u (List.mem_cons_of_mem _ hu')⟩
  · rintro ⟨r1, r2⟩ s' ⟨hr, rfl, _⟩
    simp only at hr
    subst hr
    exact wpAny_pure h
theorem nest_quiet {k : Int × List Int} {a : Addr} {Q : Bool → Shared → Prop} (hk : IsNest w s.heap k a) (h : Q true s) : wpAny (model PR w) A (eqIsQuiet 8 (.ref a)) Q E s := by
  have hT := hk.typeIs
  obtain ⟨o, t, b, m, ho, _, hd, hi⟩ := hk
  unfold eqIsQuiet
  refine wpAny_bind (wpAny_specialOf hT F.slot_tuple_eq.lookup ?_)
  show wpAny _ _ (isInstance (.ref a) (.type "tuple") >>= _) _ _ s
  refine wpAny_bind (wpAny_isInstance hT isSubtype_tuple_tuple ?_)
  simp only [Bool.not_true, Bool.false_eq_true, if_false]
  refine wpAny_bind (wpAny_seqItems ho hd ?_)
  refine wpAny_bind ?_
  show wpAny _ _ (forIn (#[Value.int k.1 t, Value.ref b] : Array Value) _ _) _ _ s
  rw [← Array.forIn_toList]
  refine wpAny_forIn_list _ (fun rest r s' => r.1 = none ∧ s' = s ∧ (rest = [.int k.1 t, .ref b] ∨ rest = [.ref b] ∨ rest = [])) _ ?_ ?_ _ _ ⟨rfl, rfl, .inl rfl⟩
  · rintro v rest r s' ⟨hr, rfl, (e | e | e)⟩
    · cases e
      rw [eqIsQuiet_byValue _ (by rfl)]
      refine wpAny_bind (wpAny_pure ?_)
      simp only [Bool.not_true, Bool.false_eq_true, if_false]
      exact wpAny_pure ⟨rfl, rfl, .inr (.inl (by first | rfl | trivial))⟩
    · cases e
      refine wpAny_bind (quiet_tuple hi ?_)
      simp only [Bool.not_true, Bool.false_eq_true, if_false]
      exact wpAny_pure ⟨rfl, rfl, .inr (.inr (by first | rfl | trivial))⟩
    · cases e
  · rintro ⟨r1, r2⟩ s' ⟨hr, rfl, _⟩
    simp only at hr
    subst hr
    exact wpAny_pure h
end
noncomputable def nestKind (w : World) : HeapKind PR w (Int × List Int) where
  is := IsNest w
  hash := nestHash w
  draws := fun k => k.2.length + 3
  room := fun A => A.units + 16 < cLine
  inj := fun hx hy => hx.inj hy
  keeps := fun x ho hd hs => x.keeps ho hd hs
  pyHash := fun hu hk h => nest_hash (by omega) hk h
  eqBool := fun hu hx hy h => nest_eq hu hx hy h
  quiet := fun hk h => nest_quiet hk h

end
section
example : True := by
  w_top off
  (k_with "k_room!" => first | (refine' rm_k ?h_z ?e_z; (case h_z => with_reducible assumption); (case e_z => rfl)) | ((try simp only [depth_under_make, depth_under_kw, depth_in1, depth_deeper, depth_caller]); show _ < 1000; (try dsimp only); omega))
  (k_with "ke_room!" => first | (refine' rm_u ?h_z ?e_z; (case h_z => with_reducible assumption); (case e_z => rfl)) | ((simp only [units_under_make, units_in1, units_deeper, Around.mark_units, units_caller]); show _ < 9900; (try dsimp only); omega))
  (k_with "MY room" => first | (refine' rm_le ?h_z ?e_z; (case h_z => with_reducible assumption); (case e_z => rfl)) | ((try simp only [depth_under_make, depth_under_kw, depth_in1, depth_deeper, depth_caller, units_under_make, units_in1, units_deeper, Around.mark_units, units_caller]); (try dsimp only); omega))
  (k_with "call ref!" => (k_here; (with_reducible show wpAny _ _ (call (Value.ref 723) _) _ _ _); k_dflt (refine' call_scoop ?k1_z ?k2_z ?k3_z ?k4_z ?k5_z ?U_z ?hf_z ?hk_z ?hr_z ?hu_z ?p1_z ?p4_z ?p5_z ?_; (case hf_z => exact rfl); (case hk_z => exact rfl); (case k1_z => k_asm); (case k2_z => k_asm); (case k3_z => k_asm); (case k4_z => k_asm); (case k5_z => k_asm); (case U_z => k_updF); (case hr_z => k_extra "MY room"); (case hu_z => k_extra "MY room"); (case p1_z => k_asm); (case p4_z => omega); (case p5_z => omega); k_whole); intro h' tk' r' tr' a' ta' b' tb' F' N' hr0' hr1' ok'; (try dsimp only at N'); (try k_sweep)))
  (k_with "call ref!" => (k_here; (with_reducible show wpAny _ _ (call (Value.ref 730) _) _ _ _); k_dflt (refine' call_oneSel ?k1_z ?k2_z ?k3_z ?k4_z ?k5_z ?U_z ?hl_z ?hne_z ?hf_z ?hk_z ?hr_z ?hu_z ?p1_z ?p4_z ?p5_z ?p6_z ?_ ?_; (case hf_z => exact rfl); (case hk_z => exact rfl); (case k1_z => k_asm); (case k2_z => k_asm); (case k3_z => k_asm); (case k4_z => k_asm); (case k5_z => k_asm); (case hl_z => k_mem); (case hne_z => k_ne); (case U_z => k_updF); (case hr_z => k_extra "MY room"); (case hu_z => k_extra "MY room"); (case p1_z => k_asm); (case p4_z => exact Nat.le_of_ble_eq_true rfl); (case p5_z => exact Nat.le_of_ble_eq_true rfl); (case p6_z => exact rfl); k_whole); all_goals (intros; rename News _ _ _ _ => N'; (try dsimp only at N'); (try k_sweep))))
  (k_with "MY sub" => first | exact fun _ h => h | (refine sub_cons ?_; k_extra "MY sub"))
  (k_with "MY len" => first | with_reducible assumption | (refine' len_two ?h_z ?g_z ?e_z; (case h_z => assumption); (case g_z => with_reducible assumption); (case e_z => rfl)) | (refine' len_three ?h_z ?g_z ?e_z; (case h_z => assumption); (case g_z => with_reducible assumption); (case e_z => rfl)) | ((try simp only [List.length_append, List.length_cons, List.length_nil] at *); omega))
  (k_with "compareOp NotEq ref ref!" => (k_here; (with_reducible show wpAny _ _ (compareOp CmpOp.NotEq (Value.ref _) (Value.ref _)) _ _ _); k_dflt (first | (refine' ne_nil_cons ?N_z ?a_z ?b_z ?d_z ?s_z ?u_z ?_; (case N_z => k_asm); (case a_z => k_mem); (case b_z => k_mem); (case d_z => k_asm); (case s_z => k_extra "MY sub"); (case u_z => ke_room)) | (refine' ne_nil_nil ?N_z ?a_z ?b_z ?u_z ?_; (case N_z => k_asm); (case a_z => k_mem); (case b_z => k_mem); (case u_z => ke_room)))))
  (k_with "compareOp Eq ref ref!" => (k_here; (with_reducible show wpAny _ _ (compareOp CmpOp.Eq (Value.ref _) (Value.ref _)) _ _ _); k_dflt (first | (refine' eq_nil_cons ?N_z ?a_z ?b_z ?d_z ?s_z ?u_z ?_; (case N_z => k_asm); (case a_z => k_mem); (case b_z => k_mem); (case d_z => k_asm); (case s_z => k_extra "MY sub"); (case u_z => ke_room)) | (refine' eq_nil_nil ?N_z ?a_z ?b_z ?u_z ?_; (case N_z => k_asm); (case a_z => k_mem); (case b_z => k_mem); (case u_z => ke_room)))))
  (k_with "call builtin:list.pop!" => (k_here; k_dflt ((with_reducible show wpAny _ _ (call (Value.builtin _) [Value.ref _, Value.int _ _]) _ _ _); refine' my_pop0 ?F_z ?N_z ?U_z ?z_z ?_; (case F_z => k_asm); (case N_z => k_asm); (case U_z => k_updF); (case z_z => k_extra "MY len")); intro h' F' N'; (try dsimp only at N'); (try k_sweep)))
  (k_with "call builtin:list.append!" => (k_here; k_dflt ((with_reducible show wpAny _ _ (call (Value.builtin _) [Value.ref _, _]) _ _ _); refine' my_append ?F_z ?N_z ?U_z ?z_z ?_; (case F_z => k_asm); (case N_z => k_asm); (case U_z => k_updF); (case z_z => k_extra "MY len")); intro h' F' N'; (try dsimp only at N'); (try simp only [List.nil_append] at N'); (try k_sweep)))
  (k_with "call builtin:len!" => (k_here; (with_reducible show wpAny _ _ (call (Value.builtin "len") [Value.ref _]) _ _ _); k_dflt (refine' my_len ?N_z ?m_z ?z_z ?_; (case N_z => k_asm); (case m_z => k_mem); (case z_z => k_extra "MY len"))))
  (k_with "call ref!" => (k_here; (with_reducible show wpAny _ _ (call (Value.ref 737) _) _ _ _); k_dflt (first | (refine' call_ready_send ?k1_z ?k2_z ?k3_z ?k4_z ?k5_z ?hb_z ?h1_z ?h2_z ?h3_z ?h4_z ?hs_z ?hf_z ?hk_z ?hr_z ?hu_z ?r1_z ?r2_z ?r3_z ?l1_z ?_; (case hf_z => exact rfl); (case hk_z => exact rfl); (case k1_z => k_asm); (case k2_z => k_asm); (case k3_z => k_asm); (case k4_z => k_asm); (case k5_z => k_asm); (case h1_z => k_mem); (case hb_z => k_asm); (case h2_z => k_mem); (case h3_z => k_mem); (case h4_z => k_mem); (case r1_z => k_asm); (case r2_z => k_asm); (case r3_z => k_asm); (case hs_z => k_extra "MY sub"); (case hr_z => k_extra "MY room"); (case hu_z => k_extra "MY room"); (case l1_z => k_extra "MY len"); k_whole) | (refine' call_ready_recv ?k1_z ?k2_z ?k3_z ?k4_z ?k5_z ?hb_z ?h1_z ?h2_z ?h3_z ?h4_z ?hs_z ?hf_z ?hk_z ?hr_z ?hu_z ?r1_z ?r2_z ?r3_z ?l1_z ?_; (case hf_z => exact rfl); (case hk_z => exact rfl); (case k1_z => k_asm); (case k2_z => k_asm); (case k3_z => k_asm); (case k4_z => k_asm); (case k5_z => k_asm); (case h1_z => k_mem); (case hb_z => k_asm); (case h2_z => k_mem); (case h3_z => k_mem); (case h4_z => k_mem); (case r1_z => k_asm); (case r2_z => k_asm); (case r3_z => k_asm); (case hs_z => k_extra "MY sub"); (case hr_z => k_extra "MY room"); (case hu_z => k_extra "MY room"); (case l1_z => k_extra "MY len"); k_whole)); intro h' tk' F' N'; (try k_sweep)))
  (k_with "call ref!" => (k_here; (with_reducible show wpAny _ _ (call (Value.ref 28) _) _ _ _); k_dflt (first | (refine' call_case_send ?k1_z ?k2_z ?k3_z ?k4_z ?k5_z ?h1_z ?h2_z ?h3_z ?h4_z ?h5_z ?h6_z ?hs_z ?hf_z ?hk_z ?hr_z ?hu_z ?r1_z ?r2_z ?r3_z ?l1_z ?_; (case hf_z => exact rfl); (case hk_z => exact rfl); (case k1_z => k_asm); (case k2_z => k_asm); (case k3_z => k_asm); (case k4_z => k_asm); (case k5_z => k_asm); (case h1_z => k_mem); (case h2_z => k_mem); (case h3_z => k_mem); (case h4_z => k_mem); (case h5_z => k_mem); (case h6_z => k_mem); (case r1_z => k_asm); (case r2_z => k_asm); (case r3_z => k_asm); (case hs_z => k_extra "MY sub"); (case hr_z => k_extra "MY room"); (case hu_z => k_extra "MY room"); (case l1_z => k_extra "MY len"); k_whole) | (refine' call_case_recv ?k1_z ?k2_z ?k3_z ?k4_z ?k5_z ?h1_z ?h2_z ?h3_z ?h4_z ?h5_z ?h6_z ?hs_z ?hf_z ?hk_z ?hr_z ?hu_z ?r1_z ?r2_z ?r3_z ?l1_z ?_; (case hf_z => exact rfl); (case hk_z => exact rfl); (case k1_z => k_asm); (case k2_z => k_asm); (case k3_z => k_asm); (case k4_z => k_asm); (case k5_z => k_asm); (case h1_z => k_mem); (case h2_z => k_mem); (case h3_z => k_mem); (case h4_z => k_mem); (case h5_z => k_mem); (case h6_z => k_mem); (case r1_z => k_asm); (case r2_z => k_asm); (case r3_z => k_asm); (case hs_z => k_extra "MY sub"); (case hr_z => k_extra "MY room"); (case hu_z => k_extra "MY room"); (case l1_z => k_extra "MY len"); k_whole)); intro h' tk' F' N'; (try k_sweep)))
  (k_with "k_mem!" => with_reducible assumption)
  (k_with "MY cls" => first | exact cls_dict (by with_reducible assumption) | exact cls_rf | exact cls_ty (by decide) | fail "MY cls")
  (k_with "k_all!" => with_reducible assumption)
  (k_with "k_all!" => (refine' offTup ?N_z ?t_z ?s_z ?m_z ?c_z; (case N_z => k_asm); (case t_z => with_reducible assumption); (case s_z => k_extra "MY sub"); (case m_z => k_mem); (case c_z => k_extra "MY cls")))
  (k_with "eval ListComp!" => (k_here; (with_reducible show wpAny _ _ (eval (Expr.ListComp (Expr.Name _ _) [⟨Expr.Name _ _, _, [Expr.Compare _ [CmpOp.NotEq] _ _], _⟩] _ _) _) _ _ _); k_dflt (refine' filter_comp ?F_z ?N_z ?t_z ?c_z ?d_z ?k1_z ?k2_z ?k3_z ?k4_z ?k5_z ?k6_z ?k7_z ?k8_z ?k9_z ?hh_z ?u_z ?_ ?k10_z; (case F_z => k_asm); (case N_z => k_asm); (case t_z => with_reducible assumption); (case k1_z => with_unfolding_all rfl); (case c_z => k_mem); (case d_z => k_asm); (case k2_z => decide); (case k3_z => rfl); (case k4_z => decide); (case k5_z => rfl); (case k6_z => intro _; rfl); (case k7_z => intro _; rfl); (case k8_z => decide); (case k9_z => decide); (case hh_z => exact rfl); (case u_z => ke_room); (case k10_z => intro _; with_unfolding_all rfl))))
  (k_with "FiltSrc!" => ((rename Fr _ _ _ _ => lF'); (rename News _ _ _ _ => lN'); (refine ⟨_, _, _, _, _, _, rfl, lF', lN', by k_mem, by (first | with_reducible assumption), by (k_extra "MY sub"), by k_mem, by k_asm, by (k_extra "MY len"), ?_⟩); clear lF' lN'; intro h' tk' l' n' F' N' ap'; (try k_sweep)))
  (k_with "ked_read!" => exact sel_reads (by with_reducible assumption))
  (k_with "subscriptTail!" => (k_here; (with_reducible show wpAny _ _ (subscriptTail _ _ (Value.ref _) (Value.int _ _)) _ _ _); k_dflt (refine' item_row ?N_z ?s_z ?m_z ?a_z ?b_z ?c_z ?d_z ?_; (case N_z => k_asm); (case m_z => with_reducible assumption); (case s_z => k_extra "MY sub"); (case a_z => decide); (case b_z => decide); (case c_z => rfl); (case d_z => rfl))))
  (k_with "eval Subscript!" => (k_here; (with_reducible show wpAny _ _ (eval (Expr.Subscript (Expr.Name _ _) (Expr.Constant (Const.int _) _ _) _) _) _ _ _); k_dflt (refine' rowName ?F_z ?N_z ?k_z ?x_z ?b_z ?v_z ?s_z ?m_z ?a_z ?c_z ?d_z ?_; (case F_z => k_asm); (case N_z => k_asm); (case k_z => rfl); (case x_z => rfl); (case b_z => decide); (case v_z => rfl); (case m_z => with_reducible assumption); (case s_z => k_extra "MY sub"); (case a_z => decide); (case c_z => rfl); (case d_z => rfl); k_whole)))
  (k_with "k_memK!" => first | (refine Bef.head ?_; k_memK) | (refine Bef.tail ?_; k_memK))
  (k_with "k_ne!" => (refine neN ?_; (try dsimp only); first | exact Aps.get (by with_reducible assumption) (by k_memK) | exact (Aps.get (by with_reducible assumption) (by k_memK)).symm | exact AllAp.get (by with_reducible assumption) (by k_memK) | exact (AllAp.get (by with_reducible assumption) (by k_memK)).symm | omega))
  (k_with "newTuple!" => (k_here; k_dflt (refine' newTupS ?F_z ?N_z ?z_z ?_; (case F_z => k_asm); (case N_z => k_asm); (case z_z => rfl); k_whole); intro Dq' hq' lq' Fq' Nq'; (try k_sweep)))
  (k_with "newList!" => (k_here; k_dflt (refine' newListS ?F_z ?N_z ?z_z ?_; (case F_z => k_asm); (case N_z => k_asm); (case z_z => rfl); k_whole); intro Dq' hq' lq' Fq' Nq'; (try k_sweep)))
  (k_with "MYM" => with_reducible (first | exact mm0 | exact mm1 | exact mm2 | exact mm3 | exact mm4 | exact mm5 | exact mm6 | exact mm7 | exact mm8 | exact mm9 | exact mm10 | exact mm11 | exact mm12 | exact mm13 | exact mm14 | exact mm15 | exact mm16 | exact mm17 | exact mm18 | exact mm19 | exact mm20 | exact mm21 | exact mm22 | exact mm23 | exact mm24 | exact mm25 | exact mm26 | exact mm27 | exact mm28 | exact mm29 | exact mm30 | exact mm31 | exact mm32 | exact mm33 | exact mm34 | exact mm35 | exact mm36 | exact mm37 | exact mm38 | exact mm39 | exact mm40 | exact mm41 | exact mm42 | exact mm43 | exact mm44 | exact mm45 | exact mm46 | exact mm47))
  (k_with "MYB" => (first | (with_reducible refine bf0 ?_) | (with_reducible refine bg0 ?_) | (with_reducible refine bf1 ?_) | (with_reducible refine bg1 ?_) | (with_reducible refine bf2 ?_) | (with_reducible refine bg2 ?_) | (with_reducible refine bf3 ?_) | (with_reducible refine bg3 ?_) | (with_reducible refine bf4 ?_) | (with_reducible refine bg4 ?_) | (with_reducible refine bf5 ?_) | (with_reducible refine bg5 ?_) | (with_reducible refine bf6 ?_) | (with_reducible refine bg6 ?_) | (with_reducible refine bf7 ?_) | (with_reducible refine bg7 ?_) | (with_reducible refine bf8 ?_) | (with_reducible refine bg8 ?_) | (with_reducible refine bf9 ?_) | (with_reducible refine bg9 ?_) | (with_reducible refine bf10 ?_) | (with_reducible refine bg10 ?_) | (with_reducible refine bf11 ?_) | (with_reducible refine bg11 ?_)); k_extra "MYM")
  (k_with "k_mem!" => k_extra "MYM")
  (k_with "k_all!" => exact ltS_all (by with_reducible assumption))
  (k_with "k_ne!" => (refine neN ?_; (try dsimp only); first | (refine' allLt_ne ?L_z ?M_z; (case L_z => with_reducible assumption); (case M_z => k_extra "MYM")) | (refine' lt_neS ?L_z ?M_z; (case L_z => with_reducible assumption); (case M_z => k_extra "MYM")) | (refine' aps_ne ?A_z ?B_z; (case A_z => with_reducible assumption); (case B_z => k_extra "MYB")) | (refine' lt_ne1 ?L_z ?M_z; (case L_z => with_reducible assumption); (case M_z => k_extra "MYM")) | (refine' lt_neS1 ?L_z ?M_z; (case L_z => with_reducible assumption); (case M_z => k_extra "MYM")) | exact ne_lt (by with_reducible assumption) | exact (ne_lt (by with_reducible assumption)).symm | (refine' allLt_ne2 ?e_z ?L_z ?M_z; (case e_z => with_reducible assumption); (case L_z => with_reducible assumption); (case M_z => k_extra "MYM")) | (refine' (allLt_ne2 ?e_z ?L_z ?M_z).symm; (case e_z => with_reducible assumption); (case L_z => with_reducible assumption); (case M_z => k_extra "MYM")) | exact AllAp.get (by with_reducible assumption) (by k_mem) | exact (AllAp.get (by with_reducible assumption) (by k_mem)).symm | fail "MY ne"))
  (k_with "MY split" => (repeat (rename (_ ∧ _) => hc9; obtain ⟨_, _⟩ := hc9)))
  (k_with "MY lts" => (repeat' (first | with_reducible assumption | exact True.intro | refine And.intro ?_ ?_)))
  (k_with "MY stay" => first | (refine' allk ?a9_z ?b9_z; (case a9_z => first | exact fun _ => News.get (by with_reducible assumption) (by k_mem) | exact fun h => absurd (by k_memK) h); (case b9_z => k_extra "MY stay")) | exact fun q hq _ => (by with_reducible assumption : News _ _ _ _).get ((by k_extra "MY sub" : ∀ p ∈ _, p ∈ _) q hq))
  (k_with "MY now" => first | exact List.forall_mem_nil _ | (refine' allk ?a9_z ?b9_z; (case a9_z => exact News.get (by with_reducible assumption) (by k_mem)); (case b9_z => k_extra "MY now")))
  (k_with "MY made" => first | exact List.forall_mem_nil _ | (refine' allk ?a9_z ?b9_z; (case a9_z => exact ⟨News.get (by with_reducible assumption) (by k_mem), News.fresh (by with_reducible assumption) (by k_mem)⟩); (case b9_z => k_extra "MY made")))
  (k_with "MY aps1" => first | (refine' ltS_ap ?L_z ?s_z; (case L_z => with_reducible assumption); (case s_z => first | exact fun h => h | exact fun h => h.2 | exact fun h => h.2.2 | exact fun h => h.2.2.2 | exact fun h => h.2.2.2.2 | exact fun h => h.2.2.2.2.2 | exact fun h => h.2.2.2.2.2.2 | exact fun h => h.2.2.2.2.2.2.2)) | exact allLt_ap (by k_extra "MY lts"))
  (k_with "MY apart" => first | exact List.forall_mem_nil _ | (refine' allk ?a9_z ?b9_z; (case a9_z => k_extra "MY aps1"); (case b9_z => k_extra "MY apart")))
  (k_with "MY ap" => first | (refine allc ⟨AllAp.get (by with_reducible assumption) (by k_mem), ?_⟩; k_extra "MY ap") | exact fun q hq => AllAp.get (by with_reducible assumption) ((by k_extra "MY sub" : ∀ p ∈ _, p ∈ _) q hq))
  (k_with "call ref!" => (k_here; (with_reducible show wpAny _ _ (call (Value.ref 399) _) _ _ _); k_dflt (first | (refine' call_offerA ?k1_z ?k2_z ?k3_z ?k4_z ?k5_z ?h1_z ?h2_z ?h3_z ?h4_z ?h5_z ?hs_z ?hf_z ?hk_z ?hr_z ?hu_z ?ap_z ?tu_z ?ro_z ?rd_z ?la_z ?as_z ?U_z ?_; (case hf_z => exact rfl); (case hk_z => exact rfl); (case k1_z => k_asm); (case k2_z => k_asm); (case k3_z => k_asm); (case k4_z => k_asm); (case k5_z => k_asm); (case tu_z => with_reducible assumption); (case h1_z => k_mem); (case h2_z => k_mem); (case h3_z => k_mem); (case h4_z => k_mem); (case h5_z => k_mem); (case ro_z => k_mem); (case as_z => with_reducible assumption); (case rd_z => k_asm); (case ap_z => with_reducible assumption); (case hs_z => k_extra "MY sub"); (case hr_z => k_extra "MY room"); (case hu_z => k_extra "MY room"); (case la_z => k_extra "MY len"); (case U_z => k_updF); intro told' e1' e2' e3' u1' u2' u3' h' tk' F' N' ap1' ap2' ap3' ap4'; (try dsimp only at N'); (try k_sweep)) | (refine' call_offerB ?k1_z ?k2_z ?k3_z ?k4_z ?k5_z ?h1_z ?h2_z ?h3_z ?h4_z ?h5_z ?hs_z ?hf_z ?hk_z ?hr_z ?hu_z ?ap_z ?tu_z ?ro_z ?la_z ?lt_z ?U_z ?_; (case hf_z => exact rfl); (case hk_z => exact rfl); (case k1_z => k_asm); (case k2_z => k_asm); (case k3_z => k_asm); (case k4_z => k_asm); (case k5_z => k_asm); (case tu_z => with_reducible assumption); (case h1_z => k_mem); (case h2_z => k_mem); (case h3_z => k_mem); (case h4_z => k_mem); (case h5_z => k_mem); (case ro_z => k_mem); (case ap_z => with_reducible assumption); (case hs_z => k_extra "MY sub"); (case hr_z => k_extra "MY room"); (case hu_z => k_extra "MY room"); (case la_z => k_extra "MY len"); (case lt_z => with_reducible assumption); (case U_z => k_updF); intro told' e1' u1' h' tk' F' N' ap1' ap2'; (try dsimp only at N'); (try k_sweep)) | (refine' call_offerC ?k1_z ?k2_z ?k3_z ?k4_z ?k5_z ?h1_z ?h2_z ?h3_z ?h4_z ?h5_z ?hs_z ?hf_z ?hk_z ?hr_z ?hu_z ?ap_z ?tu_z ?ro_z ?la_z ?lb_z ?lt_z ?U_z ?_; (case hf_z => exact rfl); (case hk_z => exact rfl); (case k1_z => k_asm); (case k2_z => k_asm); (case k3_z => k_asm); (case k4_z => k_asm); (case k5_z => k_asm); (case tu_z => with_reducible assumption); (case h1_z => k_mem); (case h2_z => k_mem); (case h3_z => k_mem); (case h4_z => k_mem); (case h5_z => k_mem); (case ro_z => k_mem); (case ap_z => with_reducible assumption); (case hs_z => k_extra "MY sub"); (case hr_z => k_extra "MY room"); (case hu_z => k_extra "MY room"); (case la_z => k_extra "MY len"); (case lb_z => k_extra "MY len"); (case lt_z => with_reducible assumption); (case U_z => k_updF); intro told' e1' u1' h' tk' F' N' ap1' ap2'; (try dsimp only at N'); (try k_sweep)))))
  (k_with "call ref!" => (k_here; (with_reducible show wpAny _ _ (call (Value.ref 406) _) _ _ _); k_dflt (first | (refine' call_takeA ?k1_z ?k2_z ?k3_z ?k4_z ?k5_z ?h1_z ?h2_z ?h3_z ?h4_z ?h5_z ?hs_z ?hf_z ?hk_z ?hr_z ?hu_z ?ap_z ?tu_z ?rd_z ?re_z ?la_z ?lb_z ?as_z ?U_z ?V_z ?_; (case hf_z => exact rfl); (case hk_z => exact rfl); (case k1_z => k_asm); (case k2_z => k_asm); (case k3_z => k_asm); (case k4_z => k_asm); (case k5_z => k_asm); (case tu_z => with_reducible assumption); (case h1_z => k_mem); (case h2_z => k_mem); (case h3_z => k_mem); (case h4_z => k_mem); (case h5_z => k_mem); (case as_z => with_reducible assumption); (case rd_z => k_asm); (case re_z => k_asm); (case ap_z => with_reducible assumption); (case hs_z => k_extra "MY sub"); (case hr_z => k_extra "MY room"); (case hu_z => k_extra "MY room"); (case la_z => k_extra "MY len"); (case lb_z => k_extra "MY len"); (case U_z => k_updF); (case V_z => (try dsimp only); k_updF); intro told' e1' e2' e3' u1' u2' u3' nt' h' tk' F' N' ap1' ap2' ap3' ap4'; (try dsimp only at N'); (try k_sweep)) | (refine' call_takeB ?k1_z ?k2_z ?k3_z ?k4_z ?k5_z ?h1_z ?h2_z ?h3_z ?h4_z ?h5_z ?hs_z ?hf_z ?hk_z ?hr_z ?hu_z ?ap_z ?tu_z ?rd_z ?la_z ?U_z ?_; (case hf_z => exact rfl); (case hk_z => exact rfl); (case k1_z => k_asm); (case k2_z => k_asm); (case k3_z => k_asm); (case k4_z => k_asm); (case k5_z => k_asm); (case tu_z => with_reducible assumption); (case h1_z => k_mem); (case h2_z => k_mem); (case h3_z => k_mem); (case h4_z => k_mem); (case h5_z => k_mem); (case rd_z => k_asm); (case ap_z => with_reducible assumption); (case hs_z => k_extra "MY sub"); (case hr_z => k_extra "MY room"); (case hu_z => k_extra "MY room"); (case la_z => k_extra "MY len"); (case U_z => k_updF); intro told' e1' u1' nt' h' tk' F' N' ap1' ap2'; (try dsimp only at N'); (try k_sweep)) | (refine' call_takeC ?k1_z ?k2_z ?k3_z ?k4_z ?k5_z ?h1_z ?h2_z ?h3_z ?h4_z ?h5_z ?hs_z ?hf_z ?hk_z ?hr_z ?hu_z ?ap_z ?tu_z ?rd_z ?la_z ?as_z ?U_z ?_; (case hf_z => exact rfl); (case hk_z => exact rfl); (case k1_z => k_asm); (case k2_z => k_asm); (case k3_z => k_asm); (case k4_z => k_asm); (case k5_z => k_asm); (case tu_z => with_reducible assumption); (case h1_z => k_mem); (case h2_z => k_mem); (case h3_z => k_mem); (case h4_z => k_mem); (case h5_z => k_mem); (case as_z => with_reducible assumption); (case rd_z => k_asm); (case ap_z => with_reducible assumption); (case hs_z => k_extra "MY sub"); (case hr_z => k_extra "MY room"); (case hu_z => k_extra "MY room"); (case la_z => k_extra "MY len"); (case U_z => k_updF); intro told' e1' e2' e3' u1' u2' u3' nt' h' tk' F' N' ap1' ap2' ap3' ap4'; (try dsimp only at N'); (try k_sweep)) | (refine' call_takeD ?k1_z ?k2_z ?k3_z ?k4_z ?k5_z ?h1_z ?h2_z ?h3_z ?h4_z ?h5_z ?hs_z ?hf_z ?hk_z ?hr_z ?hu_z ?ap_z ?tu_z ?la_z ?U_z ?_; (case hf_z => exact rfl); (case hk_z => exact rfl); (case k1_z => k_asm); (case k2_z => k_asm); (case k3_z => k_asm); (case k4_z => k_asm); (case k5_z => k_asm); (case tu_z => with_reducible assumption); (case h1_z => k_mem); (case h2_z => k_mem); (case h3_z => k_mem); (case h4_z => k_mem); (case h5_z => k_mem); (case ap_z => with_reducible assumption); (case hs_z => k_extra "MY sub"); (case hr_z => k_extra "MY room"); (case hu_z => k_extra "MY room"); (case la_z => k_extra "MY len"); (case U_z => k_updF); intro told' e1' u1' nt' h' tk' F' N' ap1' ap2'; (try dsimp only at N'); (try k_sweep)))))
  (k_with "call ref!" => (k_here; (with_reducible show wpAny _ _ (call (Value.ref 423) _) _ _ _); k_dflt (refine' call_forget ?k1_z ?k2_z ?k3_z ?k4_z ?k5_z ?h1_z ?h2_z ?h3_z ?h4_z ?h5_z ?hs_z ?hf_z ?hk_z ?hr_z ?hu_z ?ap_z ?tu_z ?rS_z ?rR_z ?la_z ?lb_z ?U_z ?_; (case hf_z => exact rfl); (case hk_z => exact rfl); (case k1_z => k_asm); (case k2_z => k_asm); (case k3_z => k_asm); (case k4_z => k_asm); (case k5_z => k_asm); (case tu_z => with_reducible assumption); (case h1_z => k_mem); (case h2_z => k_mem); (case h3_z => k_mem); (case h4_z => k_mem); (case h5_z => k_mem); (case rS_z => with_reducible assumption); (case rR_z => with_reducible assumption); (case ap_z => with_reducible assumption); (case hs_z => k_extra "MY sub"); (case hr_z => k_extra "MY room"); (case hu_z => k_extra "MY room"); (case la_z => k_extra "MY len"); (case lb_z => k_extra "MY len"); (case U_z => k_updF); intro l1' l2' n1' n2' h' tk' F' N' ap1' ap2' ne'; (try dsimp only at N'); (try k_sweep))))
  (k_with "MY step" => first | (k_unfold; (try dsimp only)) | (k_end; wrow_close) | walk1 | (dsimp only; walk1) | (leave1; walk_say "STEP leave1"; try dsimp only) | fail "no step")
  (k_with "MY sub" => exact fun _ h => List.mem_append_left _ h)
  trivial
abbrev gorD (w : World) (t1 t2 t3 t4 t5 : Tok) (num st wf fr an : Value) : Obj := dictOf [⟨PyData.keyHash w.params (Str.ofString "number"), .str (Str.ofString "number") t1, num⟩, ⟨PyData.keyHash w.params (Str.ofString "state"), .str (Str.ofString "state") t2, st⟩, ⟨PyData.keyHash w.params (Str.ofString "waits_for"), .str (Str.ofString "waits_for") t3, wf⟩, ⟨PyData.keyHash w.params (Str.ofString "frames"), .str (Str.ofString "frames") t4, fr⟩, ⟨PyData.keyHash w.params (Str.ofString "answer"), .str (Str.ofString "answer") t5, an⟩] 5
abbrev schD (w : World) (t1 t2 t3 : Tok) (ch al hr : Value) : Obj := dictOf [⟨PyData.keyHash w.params (Str.ofString "choices"), .str (Str.ofString "choices") t1, ch⟩, ⟨PyData.keyHash w.params (Str.ofString "all"), .str (Str.ofString "all") t2, al⟩, ⟨PyData.keyHash w.params (Str.ofString "here"), .str (Str.ofString "here") t3, hr⟩] 3
abbrev chcD (w : World) (t1 t2 : Tok) (row tk : Value) : Obj := dictOf [⟨PyData.keyHash w.params (Str.ofString "row"), .str (Str.ofString "row") t1, row⟩, ⟨PyData.keyHash w.params (Str.ofString "taken"), .str (Str.ofString "taken") t2, tk⟩] 2
abbrev metD (w : World) (t1 t2 t3 t4 t5 t6 : Tok) (hp sc gv wt gd : Value) : Obj := dictOf [⟨PyData.keyHash w.params (Str.ofString "heap"), .str (Str.ofString "heap") t1, hp⟩, ⟨PyData.keyHash w.params (Str.ofString "scheduler"), .str (Str.ofString "scheduler") t2, sc⟩, ⟨PyData.keyHash w.params (Str.ofString "watch"), .str (Str.ofString "watch") t3, .none⟩, ⟨PyData.keyHash w.params (Str.ofString "given"), .str (Str.ofString "given") t4, gv⟩, ⟨PyData.keyHash w.params (Str.ofString "waiting"), .str (Str.ofString "waiting") t5, wt⟩, ⟨PyData.keyHash w.params (Str.ofString "gates"), .str (Str.ofString "gates") t6, gd⟩] 6
theorem ltS_ap2 {d x : Addr} {l mu : List (Addr × Obj)} (e : @LT.lt Nat _ d x) (L : LtS d l) (s : AllLt d l → AllLt d mu) : AllAp x mu := fun p hp e' => absurd (allLt_ap (s L.h)) (fun _ => by have := allLt_get (o := p.2) (s L.h) hp; rw [e'] at this; exact absurd (Nat.lt_trans this e) (Nat.lt_irrefl _))
example : True := by
  (k_with "MY aps1" => first | (refine' ltS_ap2 ?e_z ?L_z ?s_z; (case e_z => with_reducible assumption); (case L_z => with_reducible assumption); (case s_z => first | exact fun h => h | exact fun h => h.2 | exact fun h => h.2.2 | exact fun h => h.2.2.2 | exact fun h => h.2.2.2.2 | exact fun h => h.2.2.2.2.2)) | fail "MY aps1")
  (k_with "MY lts" => (repeat' (first | with_reducible assumption | exact True.intro | refine And.intro ?_ ?_ | (show @LT.lt Nat _ _ _; omega))))
  trivial
theorem Aps.of3 {a b c : Addr} (h1 : a ≠ b) (h2 : a ≠ c) (h3 : b ≠ c) : Aps [a, b, c] := by
  simp only [Aps, List.forall_mem_cons, List.not_mem_nil, false_imp_iff, implies_true, and_true]
  exact ⟨⟨⟨h1⟩, ⟨h2⟩⟩, ⟨h3⟩⟩

def SpawnA (w : World) (mu : List (Addr × Obj)) (al dS ch : Addr) (vs : List Value) (n : Nat) (t1 t2 t3 : Tok) (k : Int) (g' : Heap) (v : Value) (h' : Heap) : Prop :=
  ∃ x d fr u1 u2 u3 u4 u5 u6 u7, v = .ref x ∧ Chg mu [(al, listOf (vs ++ [Value.ref x]).toArray (n + 1)), (dS, schD w t1 t2 t3 (.ref ch) (.ref al) (.ref x))] [(x, instObj 615 d), (d, gorD w u1 u2 u3 u4 u5 (.int k u6) (.str (Str.ofString "ready") u7) .none (.ref fr) .none), (fr, listOf #[] 0)] g' h' ∧ Aps [x, d, fr]
def SpawnB (w : World) (mu : List (Addr × Obj)) (al : Addr) (vs : List Value) (n : Nat) (k : Int) (g' : Heap) (v : Value) (h' : Heap) : Prop :=
  ∃ x d fr u1 u2 u3 u4 u5 u6 u7, v = .ref x ∧ Chg mu [(al, listOf (vs ++ [Value.ref x]).toArray (n + 1))] [(x, instObj 615 d), (d, gorD w u1 u2 u3 u4 u5 (.int k u6) (.str (Str.ofString "ready") u7) .none (.ref fr) .none), (fr, listOf #[] 0)] g' h' ∧ Aps [x, d, fr]
section
variable {w : World} {mean : ExcName → Option Value} {mg mb : Str → Option Value} {dp un : Nat} {gd : Option (List Code)} {base g : Heap} {fs : List Env} {s : Shared}

set_option rowWalk.seconds 0 in
set_option maxRecDepth 100000 in
set_option maxHeartbeats 8000000 in
theorem spawn_A {S dS al ch z : Addr} {t1 t2 t3 : Tok} {n : Nat} {vs : List Value} (G : Gd w mean mg mb ⟨none, dp, some fs, gd, un⟩ base fs g) (hx : Ext g s.heap) (hroom : dp ≤ 950) (hun : un ≤ 8900)
    (aps : Aps [S, dS, al]) (ln : vs.length ≤ 100)
    (N : NewsG g s.heap ((S, instObj 705 dS) :: (dS, schD w t1 t2 t3 (.ref ch) (.ref al) .none) :: (al, listOf vs.toArray n) :: [])) :
    codeAny (model PR w) ⟨none, dp, some fs, gd, un⟩ (.call (.ref 640) ⟨[.ref S], []⟩) (Done s g (SpawnA w ((S, instObj 705 dS) :: (dS, schD w t1 t2 t3 (.ref ch) (.ref al) .none) :: (al, listOf vs.toArray n) :: []) al dS ch vs n t1 t2 t3 vs.length g)) s := by
  refine unbx ?_
  simp (discharger := (k_dflt (
      refine enterG (binds := [(Str.ofString "self", .ref S)]) G hx N (by k_is) (by k_is) (by exact Nat.lt_of_le_of_lt hroom (by decide)) (by exact BindsTo.of_eq rfl) (by exact locs rfl) ?_ (by exact rfl) (by exact rfl) (by exact rfl) (by decide)
      intro L' h' F' N'
      have B' := G.B
      have X' := G.X
      have T' := G.T
      clear N hx
      try dsimp only
      (try k_fold)
      k_steps
      all_goals (try dsimp only)
      rename Fr _ _ _ _ => F
      refine' Done.of F ⟨_, _, _, _, _, _, _, _, _, _, rfl, ⟨?c1, ?c2, ?c3, ?c4⟩, ?c5⟩
      case c3 => k_extra "MY made"
      case c1 => k_extra "MY stay"
      case c2 => k_extra "MY now"
      case c4 => k_extra "MY apart"
      case c5 => exact Aps.of3 (by k_ne) (by k_ne) (by k_ne)))) only [↓bx]

set_option rowWalk.seconds 0 in
set_option maxRecDepth 100000 in
set_option maxHeartbeats 8000000 in
theorem spawn_B {S dS al ch z : Addr} {t1 t2 t3 : Tok} {n : Nat} {vs : List Value} (G : Gd w mean mg mb ⟨none, dp, some fs, gd, un⟩ base fs g) (hx : Ext g s.heap) (hroom : dp ≤ 950) (hun : un ≤ 8900)
    (aps : Aps [S, dS, al]) (ln : vs.length ≤ 100)
    (N : NewsG g s.heap ((S, instObj 705 dS) :: (dS, schD w t1 t2 t3 (.ref ch) (.ref al) (.ref z)) :: (al, listOf vs.toArray n) :: [])) :
    codeAny (model PR w) ⟨none, dp, some fs, gd, un⟩ (.call (.ref 640) ⟨[.ref S], []⟩) (Done s g (SpawnB w ((S, instObj 705 dS) :: (dS, schD w t1 t2 t3 (.ref ch) (.ref al) (.ref z)) :: (al, listOf vs.toArray n) :: []) al vs n vs.length g)) s := by
  refine unbx ?_
  simp (discharger := (k_dflt (
      refine enterG (binds := [(Str.ofString "self", .ref S)]) G hx N (by k_is) (by k_is) (by exact Nat.lt_of_le_of_lt hroom (by decide)) (by exact BindsTo.of_eq rfl) (by exact locs rfl) ?_ (by exact rfl) (by exact rfl) (by exact rfl) (by decide)
      intro L' h' F' N'
      have B' := G.B
      have X' := G.X
      have T' := G.T
      clear N hx
      try dsimp only
      (try k_fold)
      k_steps
      all_goals (try dsimp only)
      rename Fr _ _ _ _ => F
      refine' Done.of F ⟨_, _, _, _, _, _, _, _, _, _, rfl, ⟨?c1, ?c2, ?c3, ?c4⟩, ?c5⟩
      case c3 => k_extra "MY made"
      case c1 => k_extra "MY stay"
      case c2 => k_extra "MY now"
      case c4 => k_extra "MY apart"
      case c5 => exact Aps.of3 (by k_ne) (by k_ne) (by k_ne)))) only [↓bx]
end

end
section
example : True := by
  w_top off
  k_with_none
  (k_with "ite!" => with_reducible (first | refine itT ?_ | refine itF ?_ | refine itNT ?_ | refine itNF ?_))
  (k_with "subscriptTail Name Constant ref str!" => (k_here; k_dflt (refine' itemN (knd := PySem.strKind _ _) ?N_z ?m_z ?d_z (strKind_is _ _ _ _) ?r_z ?_ ?s_z ?g_z; (case N_z => k_asm); (case m_z => k_mem); (case d_z => k_asm); (case r_z => rfl); (case s_z => with_unfolding_all rfl); (case g_z => (intro _; with_unfolding_all rfl)))))
  (k_with "subscriptTail Name Constant ref int!" => (k_here; first | k_extra "subscriptTail!" | k_dflt (refine' item_tupleT ?t_z ?a_z ?b_z ?c_z ?d_z ?_; (case t_z => exact News.isTup (by k_asm) (by k_mem)); (case a_z => decide); (case b_z => decide); (case c_z => rfl); (case d_z => rfl); k_whole)))
  (k_with "eval Name!" => (k_here; k_dflt (refine' nameX_L ?F_z ?v_z ?_ ?a_z ?b_z; (case F_z => k_asm); (case a_z => rfl); (case b_z => rfl); (case v_z => rfl); k_whole)))
  (k_with "exec Assign!" => ((with_reducible show wpAny _ _ (exec (Stmt.Assign [Expr.Name _ _] _ _) _) _ _ _); with_reducible refine wpAny_Assign_Name ?_))
  (k_with "MY rd" => first | exact RdArgs.nil | (refine' RdArgs.name ?x_z ?d_z ?v_z ?r_z; (case x_z => rfl); (case d_z => decide); (case v_z => rfl); (case r_z => k_extra "MY rd")) | (refine' RdArgs.str ?r_z; (case r_z => k_extra "MY rd")) | (refine' RdArgs.int ?r_z; (case r_z => k_extra "MY rd")) | (refine' RdArgs.bool ?r_z; (case r_z => k_extra "MY rd")) | (refine' RdArgs.non ?r_z; (case r_z => k_extra "MY rd")))
  (k_with "spliced!" => (k_here; (first | with_reducible show wpAny _ _ (spliced (backTo _ (starEach (Expr.Name _ _ :: _) _))) _ _ _ | with_reducible show wpAny _ _ (spliced (backTo _ (starEach (Expr.Constant _ _ _ :: _) _))) _ _ _); k_dflt (refine' args_rd ?F_z ?k_z ?r_z ?_; (case F_z => k_asm); (case k_z => rfl); (case r_z => k_extra "MY rd"); k_whole); (try dsimp only [List.cons_append, List.nil_append])))
  (k_with "eval Constant str!" => with_reducible refine const_str ?_)
  (k_with "eval Constant int!" => with_reducible refine const_int ?_)
  (k_with "storeName!" => (k_here; k_dflt (refine' storeN ?F_z ?N_z ?_ ?a_z ?b_z; (case F_z => k_asm); (case N_z => k_asm); (case a_z => rfl); (case b_z => rfl); k_whole; intro hq' Fq' Nq'; (try k_sweep))))
  (k_with "unpackItems ref!" => (k_here; k_dflt (refine' unpackN ?k1_z ?k2_z ?k3_z ?k4_z ?k5_z ?_; (case k1_z => k_asm); (case k2_z => k_asm); (case k3_z => kun_tup); (case k4_z => exact rfl); (case k5_z => exact rfl); k_whole); intro hq' Fq' Nq'; (try k_sweep)))
  (k_with "newTuple cons!" => (k_here; (with_reducible show wpAny _ _ (newTuple [_, _]) _ _ _); k_dflt (first | (refine' tupTo2 ?F_z ?N_z ?k_z ?x_z ?y_z ?hh_z ?_; (case F_z => k_asm); (case N_z => k_asm); (case k_z => rfl); (case x_z => rfl); (case y_z => rfl); (case hh_z => exact rfl); k_whole) | (refine' tupTo2s ?F_z ?N_z ?t_z ?k_z ?x_z ?y_z ?hh_z ?_; (case F_z => k_asm); (case N_z => k_asm); (case t_z => with_unfolding_all rfl); (case k_z => rfl); (case x_z => rfl); (case y_z => rfl); (case hh_z => exact rfl); k_whole)); intro hq' Fq' Nq'; (try k_sweep)))
  (k_with "eval Subscript!" => (k_here; (with_reducible show wpAny _ _ (eval (Expr.Subscript (Expr.Name _ _) (Expr.Constant (Const.str _) _ _) _) _) _ _ _); k_dflt (refine' subName ?F_z ?N_z ?k_z ?x_z ?b_z ?v_z ?p_z ?o_z ?l_z ?_; (case F_z => k_asm); (case N_z => k_asm); (case k_z => rfl); (case x_z => rfl); (case b_z => decide); (case v_z => rfl); (case p_z => k_mem); (case o_z => k_asm); (case l_z => rfl); k_whole)))
  (k_with "execs cons!" => (k_here; (first | (with_reducible refine execs_gen ?_; intro tq') | with_reducible refine wpAny_execs_cons ?_); (try k_fold)))
  (k_with "k_room!" => first | (refine' rm_k ?h_z ?e_z; (case h_z => with_reducible assumption); (case e_z => rfl)) | ((try simp only [depth_under_make, depth_under_kw, depth_in1, depth_deeper, depth_caller]); show _ < 1000; (try dsimp only); omega))
  (k_with "ke_room!" => first | (refine' rm_u ?h_z ?e_z; (case h_z => with_reducible assumption); (case e_z => rfl)) | ((simp only [units_under_make, units_in1, units_deeper, Around.mark_units, units_caller]); show _ < 9900; (try dsimp only); omega))
  (k_with "MY room" => first | (refine' rm_le ?h_z ?e_z; (case h_z => with_reducible assumption); (case e_z => rfl)) | ((try simp only [depth_under_make, depth_under_kw, depth_in1, depth_deeper, depth_caller, units_under_make, units_in1, units_deeper, Around.mark_units, units_caller]); (try dsimp only); omega))
  (k_with "call ref!" => (k_here; (with_reducible show wpAny _ _ (call (Value.ref 723) _) _ _ _); k_dflt (refine' call_scoop ?k1_z ?k2_z ?k3_z ?k4_z ?k5_z ?U_z ?hf_z ?hk_z ?hr_z ?hu_z ?p1_z ?p4_z ?p5_z ?_; (case hf_z => exact rfl); (case hk_z => exact rfl); (case k1_z => k_asm); (case k2_z => k_asm); (case k3_z => k_asm); (case k4_z => k_asm); (case k5_z => k_asm); (case U_z => k_updF); (case hr_z => k_extra "MY room"); (case hu_z => k_extra "MY room"); (case p1_z => k_asm); (case p4_z => omega); (case p5_z => omega); k_whole); intro h' tk' r' tr' a' ta' b' tb' F' N' hr0' hr1' ok'; (try dsimp only at N'); (try k_sweep)))
  (k_with "ked_read!" => exact sel_reads (by with_reducible assumption))
  (k_with "subscriptTail!" => (k_here; (with_reducible show wpAny _ _ (subscriptTail _ _ (Value.ref _) (Value.int _ _)) _ _ _); k_dflt (refine' item_row ?N_z ?s_z ?m_z ?a_z ?b_z ?c_z ?d_z ?_; (case N_z => k_asm); (case m_z => with_reducible assumption); (case s_z => k_extra "MY sub"); (case a_z => decide); (case b_z => decide); (case c_z => rfl); (case d_z => rfl))))
  (k_with "eval Subscript!" => (k_here; (with_reducible show wpAny _ _ (eval (Expr.Subscript (Expr.Name _ _) (Expr.Constant (Const.int _) _ _) _) _) _ _ _); k_dflt (refine' rowName ?F_z ?N_z ?k_z ?x_z ?b_z ?v_z ?s_z ?m_z ?a_z ?c_z ?d_z ?_; (case F_z => k_asm); (case N_z => k_asm); (case k_z => rfl); (case x_z => rfl); (case b_z => decide); (case v_z => rfl); (case m_z => with_reducible assumption); (case s_z => k_extra "MY sub"); (case a_z => decide); (case c_z => rfl); (case d_z => rfl); k_whole)))
  (k_with "k_memK!" => first | (refine Bef.head ?_; k_memK) | (refine Bef.tail ?_; k_memK))
  (k_with "k_ne!" => (refine neN ?_; (try dsimp only); first | exact Aps.get (by with_reducible assumption) (by k_memK) | exact (Aps.get (by with_reducible assumption) (by k_memK)).symm | exact AllAp.get (by with_reducible assumption) (by k_memK) | exact (AllAp.get (by with_reducible assumption) (by k_memK)).symm | omega))
  (k_with "newTuple!" => (k_here; k_dflt (refine' newTupS ?F_z ?N_z ?z_z ?_; (case F_z => k_asm); (case N_z => k_asm); (case z_z => rfl); k_whole); intro Dq' hq' lq' Fq' Nq'; (try k_sweep)))
  (k_with "newList!" => (k_here; k_dflt (refine' newListS ?F_z ?N_z ?z_z ?_; (case F_z => k_asm); (case N_z => k_asm); (case z_z => rfl); k_whole); intro Dq' hq' lq' Fq' Nq'; (try k_sweep)))
  (k_with "MYM" => with_reducible (first | exact mm0 | exact mm1 | exact mm2 | exact mm3 | exact mm4 | exact mm5 | exact mm6 | exact mm7 | exact mm8 | exact mm9 | exact mm10 | exact mm11 | exact mm12 | exact mm13 | exact mm14 | exact mm15 | exact mm16 | exact mm17 | exact mm18 | exact mm19 | exact mm20 | exact mm21 | exact mm22 | exact mm23 | exact mm24 | exact mm25 | exact mm26 | exact mm27 | exact mm28 | exact mm29 | exact mm30 | exact mm31 | exact mm32 | exact mm33 | exact mm34 | exact mm35 | exact mm36 | exact mm37 | exact mm38 | exact mm39 | exact mm40 | exact mm41 | exact mm42 | exact mm43 | exact mm44 | exact mm45 | exact mm46 | exact mm47))
  (k_with "MYB" => (first | (with_reducible refine bf0 ?_) | (with_reducible refine bg0 ?_) | (with_reducible refine bf1 ?_) | (with_reducible refine bg1 ?_) | (with_reducible refine bf2 ?_) | (with_reducible refine bg2 ?_) | (with_reducible refine bf3 ?_) | (with_reducible refine bg3 ?_) | (with_reducible refine bf4 ?_) | (with_reducible refine bg4 ?_) | (with_reducible refine bf5 ?_) | (with_reducible refine bg5 ?_) | (with_reducible refine bf6 ?_) | (with_reducible refine bg6 ?_) | (with_reducible refine bf7 ?_) | (with_reducible refine bg7 ?_) | (with_reducible refine bf8 ?_) | (with_reducible refine bg8 ?_) | (with_reducible refine bf9 ?_) | (with_reducible refine bg9 ?_) | (with_reducible refine bf10 ?_) | (with_reducible refine bg10 ?_) | (with_reducible refine bf11 ?_) | (with_reducible refine bg11 ?_)); k_extra "MYM")
  (k_with "k_mem!" => k_extra "MYM")
  (k_with "k_all!" => exact ltS_all (by with_reducible assumption))
  (k_with "k_ne!" => (refine neN ?_; (try dsimp only); first | (refine' allLt_ne ?L_z ?M_z; (case L_z => with_reducible assumption); (case M_z => k_extra "MYM")) | (refine' lt_neS ?L_z ?M_z; (case L_z => with_reducible assumption); (case M_z => k_extra "MYM")) | (refine' aps_ne ?A_z ?B_z; (case A_z => with_reducible assumption); (case B_z => k_extra "MYB")) | (refine' lt_ne1 ?L_z ?M_z; (case L_z => with_reducible assumption); (case M_z => k_extra "MYM")) | (refine' lt_neS1 ?L_z ?M_z; (case L_z => with_reducible assumption); (case M_z => k_extra "MYM")) | exact ne_lt (by with_reducible assumption) | exact (ne_lt (by with_reducible assumption)).symm | (refine' allLt_ne2 ?e_z ?L_z ?M_z; (case e_z => with_reducible assumption); (case L_z => with_reducible assumption); (case M_z => k_extra "MYM")) | (refine' (allLt_ne2 ?e_z ?L_z ?M_z).symm; (case e_z => with_reducible assumption); (case L_z => with_reducible assumption); (case M_z => k_extra "MYM")) | exact AllAp.get (by with_reducible assumption) (by k_mem) | exact (AllAp.get (by with_reducible assumption) (by k_mem)).symm | fail "MY ne"))
  (k_with "MY split" => (repeat (rename (_ ∧ _) => hc9; obtain ⟨_, _⟩ := hc9)))
  (k_with "MY lts" => (repeat' (first | with_reducible assumption | exact True.intro | refine And.intro ?_ ?_)))
  (k_with "MY stay" => first | (refine' allk ?a9_z ?b9_z; (case a9_z => first | exact fun _ => News.get (by with_reducible assumption) (by k_mem) | exact fun h => absurd (by k_memK) h); (case b9_z => k_extra "MY stay")) | exact fun q hq _ => (by with_reducible assumption : News _ _ _ _).get ((by k_extra "MY sub" : ∀ p ∈ _, p ∈ _) q hq))
  (k_with "MY now" => first | exact List.forall_mem_nil _ | (refine' allk ?a9_z ?b9_z; (case a9_z => exact News.get (by with_reducible assumption) (by k_mem)); (case b9_z => k_extra "MY now")))
  (k_with "MY made" => first | exact List.forall_mem_nil _ | (refine' allk ?a9_z ?b9_z; (case a9_z => exact ⟨News.get (by with_reducible assumption) (by k_mem), News.fresh (by with_reducible assumption) (by k_mem)⟩); (case b9_z => k_extra "MY made")))
  (k_with "MY aps1" => first | (refine' ltS_ap ?L_z ?s_z; (case L_z => with_reducible assumption); (case s_z => first | exact fun h => h | exact fun h => h.2 | exact fun h => h.2.2 | exact fun h => h.2.2.2 | exact fun h => h.2.2.2.2 | exact fun h => h.2.2.2.2.2 | exact fun h => h.2.2.2.2.2.2 | exact fun h => h.2.2.2.2.2.2.2)) | exact allLt_ap (by k_extra "MY lts"))
  (k_with "MY apart" => first | exact List.forall_mem_nil _ | (refine' allk ?a9_z ?b9_z; (case a9_z => k_extra "MY aps1"); (case b9_z => k_extra "MY apart")))
  (k_with "MY step" => first | (k_unfold; (try dsimp only)) | (k_end; wrow_close) | walk1 | (dsimp only; walk1) | (leave1; walk_say "STEP leave1"; try dsimp only) | fail "no step")
  (k_with "MY sub" => exact fun _ h => List.mem_append_left _ h)
  (k_with "MY aps1" => first | (refine' ltS_ap2 ?e_z ?L_z ?s_z; (case e_z => with_reducible assumption); (case L_z => with_reducible assumption); (case s_z => first | exact fun h => h | exact fun h => h.2 | exact fun h => h.2.2 | exact fun h => h.2.2.2 | exact fun h => h.2.2.2.2 | exact fun h => h.2.2.2.2.2)) | fail "MY aps1")
  (k_with "MY lts" => (repeat' (first | with_reducible assumption | exact True.intro | refine And.intro ?_ ?_ | (show @LT.lt Nat _ _ _; omega))))
  (k_with "k_all!" => first | exact ltS_all (by with_reducible assumption) | exact allAp_all (by with_reducible assumption))
  (k_with "k_in!" => first | with_reducible assumption | exact Frag.In.keeps (by with_reducible assumption) (Fr.keep (by with_reducible assumption)))
  (k_with "MY lt" => with_reducible assumption)
  (k_with "k_ne!" => (refine neN ?_; (try dsimp only); first | exact allLt_ne (by with_reducible assumption) (by k_mem) | exact (allLt_ne (by with_reducible assumption) (by k_mem)).symm | exact ne_lt (by with_reducible assumption) | exact (ne_lt (by with_reducible assumption)).symm | exact allLt_ne2 (by with_reducible assumption) (by with_reducible assumption) (by k_mem) | exact (allLt_ne2 (by with_reducible assumption) (by with_reducible assumption) (by k_mem)).symm | exact Aps.get (by with_reducible assumption) (by k_memK) | exact (Aps.get (by with_reducible assumption) (by k_memK)).symm | exact AllAp.get (by with_reducible assumption) (by k_mem) | exact (AllAp.get (by with_reducible assumption) (by k_mem)).symm | exact off3_i (by with_reducible assumption) (by k_mem) | exact off3_c (by with_reducible assumption) (by k_mem) | exact off3_d (by with_reducible assumption) (by k_mem) | exact (off3_i (by with_reducible assumption) (by k_mem)).symm | exact (off3_c (by with_reducible assumption) (by k_mem)).symm | exact (off3_d (by with_reducible assumption) (by k_mem)).symm | exact off1_d (by with_reducible assumption) (by k_mem) | exact (off1_d (by with_reducible assumption) (by k_mem)).symm | exact Ap3.ic (by with_reducible assumption) | exact Ap3.id (by with_reducible assumption) | exact Ap3.cd (by with_reducible assumption) | exact (Ap3.ic (by with_reducible assumption)).symm | exact (Ap3.id (by with_reducible assumption)).symm | exact (Ap3.cd (by with_reducible assumption)).symm | omega))
  (k_with "CompRest!" => (with_unfolding_all first | (refine LCg.CompRest.succ ?_; intro v' I' oI' C' oC' D' m' h' tk' E' hv' hC' hx' F' N' off' ne'; (first | lcg_open hv' | (obtain ⟨t9', hv9'⟩ := hv'; subst hv9')); (replace ne' := Ap3.of ne'); (replace off' := Off3S.mk off')) | refine LCg.CompRest.zero ?_))
  (k_with "CompRestT!" => (with_unfolding_all first | (refine LCt.CompRestT.succ ?_; intro v' I' oI' C' oC' D' m' h' tk' E' hv' hC' hx' F' N' off' ne'; (first | lcg_open hv' | (obtain ⟨t9', hv9'⟩ := hv'; subst hv9')); (replace ne' := Ap3.of ne'); (replace off' := Off3S.mk off')) | refine LCt.CompRestT.zero ?_))
  (k_with "FinE!" => ((unfold LCg.FinE); intro D' h' tk' F' N' o1'; (replace o1' := Off1S.mk o1'); (try simp only [List.nil_append, List.cons_append] at N'); (try dsimp only)))
  (k_with "FinA!" => ((unfold LCg.FinA); intro D' h' tk' F' N' o1'; (replace o1' := Off1S.mk o1'); (try simp only [List.nil_append, List.cons_append] at N'); (try dsimp only)))
  trivial
/-- the gates' dict -/
structure GT (w : World) (oG : Obj) (xs : List ((Int × List Int) × Addr × Value)) : Prop where
  ex : oG.ExactDict
  dat : ∃ es ep, oG.data = .dict es ep ∧ es.toList = xs.map (entryOfKey (nestKind w))
  nd : (xs.map (·.1)).Nodup
def KeyIn (w : World) (tl : List (Addr × Obj)) (k : Int × List Int) (a : Addr) : Prop :=
  ∃ t b n vs n', (a, tupOf #[.int k.1 t, .ref b] n) ∈ tl ∧ (b, tupOf vs n') ∈ tl ∧ ItemsAre (intKind PR w) k.2 vs.toList
theorem KeyIn.is {w : World} {tl : List (Addr × Obj)} {k : Int × List Int} {a : Addr} {h : Heap} (x : KeyIn w tl k a) (N : ∀ p ∈ tl, h.get? p.1 = some p.2) : IsNest w h k a := by
  obtain ⟨t, b, n, vs, n', h1, h2, hi⟩ := x
  exact ⟨_, t, b, n, N _ h1, rfl, rfl, _, vs, n', N _ h2, rfl, rfl, hi⟩
theorem GT.at {w : World} {oG : Obj} {xs : List ((Int × List Int) × Addr × Value)} {tl : List (Addr × Obj)} {h : Heap} {gd : Addr} (G : GT w oG xs) (hg : h.get? gd = some oG) (hk : ∀ x ∈ xs, KeyIn w tl x.1 x.2.1) (N : ∀ p ∈ tl, h.get? p.1 = some p.2) : h.DictOfH (nestKind w) gd xs := by
  obtain ⟨ex, ⟨es, ep, hd, he⟩, nd⟩ := G
  exact ⟨oG, es, ep, hg, ex, hd, he, fun x hx => (hk x hx).is N, nd⟩
section
variable {w : World} {A : Around} {E : Value → Shared → Prop} {s : Shared} {g : Heap} {L gd a : Addr} {oG : Obj} {m : Str → Option Value} {xs : List ((Int × List Int) × Addr × Value)} {k : Int × List Int} {tl news : List (Addr × Obj)} {gf : Obj → List (Addr × Obj)}
theorem gate_notin {Q : Value → Shared → Prop} (N : News g L s.heap news) (hg : (gd, oG) ∈ news) (hs : ∀ p ∈ tl, p ∈ news) (G : GT w oG xs) (hk : ∀ x ∈ xs, KeyIn w tl x.1 x.2.1) (ka : KeyIn w tl k a) (lo : (gd == sysModules) = false) (hu : A.units + 64 < cLine)
    (h : ∀ tk, Q (.bool (!(atKey xs k).isSome)) { s with toks := tk }) : wpAny (model PR w) A (compareOp .NotIn (.ref a) (.ref gd)) Q E s :=
  wpAny_notIn_heap (knd := nestKind w) (by show A.units + 1 + 16 < cLine; omega) (ka.is fun p hp => (N p (hs p hp)).1) lo (G.at (N _ hg).1 hk fun p hp => (N p (hs p hp)).1) (h _)
theorem gate_get {v : Value} {ka' : Addr} {Q : Value → Shared → Prop} {value slice : PySem.Expr} (N : News g L s.heap news) (hg : (gd, oG) ∈ news) (hs : ∀ p ∈ tl, p ∈ news) (G : GT w oG xs) (hk : ∀ x ∈ xs, KeyIn w tl x.1 x.2.1) (ka : KeyIn w tl k a) (hu : A.units + 64 < cLine)
    (hp : atKey xs k = some (ka', v)) (h : ∀ tk, Q v { s with toks := tk })
    (hsub : subscripted slice false (.ref gd) (.ref a) = operate [.ref gd, .ref a] (getItem (.ref gd) (.ref a)) := by with_unfolding_all rfl) : wpAny (model PR w) A (subscriptTail value slice (.ref gd) (.ref a)) Q E s :=
  have D := G.at (N _ hg).1 hk fun p hp => (N p (hs p hp)).1
  tail_any D.typeIs slot_dict_getitem.lookup (wpAny_getItem_heap (knd := nestKind w) (by show A.units + 1 + 16 < cLine; omega) (ka.is fun p hp => (N p (hs p hp)).1) D hp (h _)) hsub
theorem gate_set {v : Value} {Q : Unit → Shared → Prop} (F : Fr g L s.heap m) (N : News g L s.heap news) (U : UpdF gd oG news gf) (hs : ∀ p ∈ tl, p ∈ news) (G : GT w oG xs) (hk : ∀ x ∈ xs, KeyIn w tl x.1 x.2.1) (ka : KeyIn w tl k a) (hu : A.units + 64 < cLine) (hz : xs.length ≤ 100)
    (h : ∀ h' tk oG', GT w oG' (storedH xs k a v) → Fr g L h' m → News g L h' (gf oG') → Q () { s with heap := h', toks := tk }) : wpAny (model PR w) A (setItem (.ref gd) (.ref a) v) Q E s := by
  have hg : (gd, oG) ∈ news := by
    obtain ⟨pre, post, rfl, _, _, _⟩ := U.split
    exact List.mem_append_right _ (.head _)
  refine wpAny_setItem_heap (knd := nestKind w) (by show A.units + 1 + 16 < cLine; omega) (ka.is fun p hp => (N p (hs p hp)).1) (G.at (N _ hg).1 hk fun p hp => (N p (hs p hp)).1) (fun h' hm' hs' => ?_) (by rw [PySem.sizeLine_eq]; omega)
  obtain ⟨o', es', ep', ho', hc', hd', he', _, hn'⟩ := hm'
  refine h h' _ o' ⟨hc', ⟨es', ep', hd', he'⟩, hn'⟩ (F.change hs' (N _ hg).2.1 (N _ hg).2.2) ?_
  obtain ⟨pre, post, rfl, hgf, n1, n2⟩ := U.split
  rw [hgf]
  intro p hp
  rcases List.mem_append.mp hp with q | q
  · have z := N p (List.mem_append_left _ q)
    exact ⟨(hs'.2 _ (n1 p q)).trans z.1, z.2⟩
  · rcases List.mem_cons.mp q with rfl | q
    · exact ⟨ho', (N _ (List.mem_append_right _ (.head _))).2⟩
    · have z := N p (List.mem_append_right _ (.tail _ q))
      exact ⟨(hs'.2 _ (n2 p q)).trans z.1, z.2⟩
end
theorem atKey_snoc {xs : List ((Int × List Int) × Addr × Value)} {k : Int × List Int} {a : Addr} {v : Value} (h : atKey xs k = none) : atKey (xs ++ [(k, a, v)]) k = some (a, v) := by
  unfold atKey at h ⊢
  have h' : xs.find? (fun x => decide (x.1 = k)) = none := by simpa using h
  rw [List.find?_append, h']
  simp
theorem key_snoc {w : World} {tl : List (Addr × Obj)} {xs : List ((Int × List Int) × Addr × Value)} {k : Int × List Int} {a : Addr} {v : Value} (hk : ∀ x ∈ xs, KeyIn w tl x.1 x.2.1) (ka : KeyIn w tl k a) : ∀ x ∈ xs ++ [(k, a, v)], KeyIn w tl x.1 x.2.1 := by
  intro x hx
  rcases List.mem_append.mp hx with q | q
  · exact hk x q
  · rw [List.mem_singleton.mp q]; exact ka
section
variable {w : World} {A : Around} {E : Value → Shared → Prop} {s : Shared} {g : Heap} {L gd a : Addr} {oG : Obj} {m : Str → Option Value} {xs : List ((Int × List Int) × Addr × Value)} {k : Int × List Int} {tl news : List (Addr × Obj)} {gf : Obj → List (Addr × Obj)}
theorem gate_absent {Q : Value → Shared → Prop} (N : News g L s.heap news) (hg : (gd, oG) ∈ news) (hs : ∀ p ∈ tl, p ∈ news) (G : GT w oG xs) (hk : ∀ x ∈ xs, KeyIn w tl x.1 x.2.1) (ka : KeyIn w tl k a) (lo : (gd == sysModules) = false) (hu : A.units + 64 < cLine) (hno : atKey xs k = none)
    (h : ∀ tk, Q (.bool true) { s with toks := tk }) : wpAny (model PR w) A (compareOp .NotIn (.ref a) (.ref gd)) Q E s :=
  gate_notin N hg hs G hk ka lo hu fun tk => by rw [hno]; exact h tk
theorem gate_there {Q : Value → Shared → Prop} {v : Value} {ka' : Addr} (N : News g L s.heap news) (hg : (gd, oG) ∈ news) (hs : ∀ p ∈ tl, p ∈ news) (G : GT w oG xs) (hk : ∀ x ∈ xs, KeyIn w tl x.1 x.2.1) (ka : KeyIn w tl k a) (lo : (gd == sysModules) = false) (hu : A.units + 64 < cLine) (hp : atKey xs k = some (ka', v))
    (h : ∀ tk, Q (.bool false) { s with toks := tk }) : wpAny (model PR w) A (compareOp .NotIn (.ref a) (.ref gd)) Q E s :=
  gate_notin N hg hs G hk ka lo hu fun tk => by rw [hp]; exact h tk
theorem gate_put {v : Value} {Q : Unit → Shared → Prop} (F : Fr g L s.heap m) (N : News g L s.heap news) (U : UpdF gd oG news gf) (hs : ∀ p ∈ tl, p ∈ news) (G : GT w oG xs) (hk : ∀ x ∈ xs, KeyIn w tl x.1 x.2.1) (ka : KeyIn w tl k a) (hu : A.units + 64 < cLine) (hz : xs.length ≤ 100) (hno : atKey xs k = none)
    (h : ∀ h' tk oG', GT w oG' (xs ++ [(k, a, v)]) → (∀ x ∈ xs ++ [(k, a, v)], KeyIn w tl x.1 x.2.1) → atKey (xs ++ [(k, a, v)]) k = some (a, v) → Fr g L h' m → News g L h' (gf oG') → Q () { s with heap := h', toks := tk }) : wpAny (model PR w) A (setItem (.ref gd) (.ref a) v) Q E s :=
  gate_set F N U hs G hk ka hu hz fun h' tk oG' G' F' N' => h h' tk oG' (by rw [storedH_new hno] at G'; exact G') (key_snoc hk ka) (atKey_snoc hno) F' N'
end
def GateN (w : World) (mu : Obj → List (Addr × Obj)) (k : Int × List Int) (a : Addr) (xs : List ((Int × List Int) × Addr × Value)) (g' : Heap) (v : Value) (h' : Heap) : Prop :=
  ∃ ga og oG', v = .ref ga ∧ NewsG g' h' ((ga, og) :: mu oG') ∧ (∀ p ∈ mu oG', p.1 ≠ ga) ∧ og.cls ≠ .type "tuple" ∧ GT w oG' (xs ++ [(k, a, .ref ga)])
theorem ltS_sub {d : Addr} {l tl : List (Addr × Obj)} (h : LtS d l) (hs : ∀ p ∈ tl, p ∈ l) : ∀ p ∈ tl, p.1 ≠ d := fun p hp => allLt_ne (o := p.2) h (hs p hp)
theorem ltS_sub2 {d x : Addr} {l tl : List (Addr × Obj)} (e : @LT.lt Nat _ d x) (h : LtS d l) (hs : ∀ p ∈ tl, p ∈ l) : ∀ p ∈ tl, p.1 ≠ x := fun p hp => allLt_ne2 (o := p.2) e h (hs p hp)
theorem gate_sub {g h : Heap} {ga x1 x2 x3 x4 x5 : Addr × Obj} {tl : List (Addr × Obj)} (N : NewsG g h (x1 :: ga :: x2 :: x3 :: x4 :: x5 :: tl)) : NewsG g h (ga :: x3 :: x4 :: x5 :: tl) := fun p hp => N p (by
  simp only [List.mem_cons] at hp ⊢
  rcases hp with h | h | h | h | h <;> simp [h])
theorem offG {g h : Heap} {gd : Addr} {oG : Obj} {mu tl : List (Addr × Obj)} (N : NewsG g h mu) (ht : TupLed tl) (hs : ∀ p ∈ tl, p ∈ mu) (hm : (gd, oG) ∈ mu) (hc : oG.ExactDict) : ∀ p ∈ tl, p.1 ≠ gd := by
  intro p hp e
  have h1 := (N p (hs p hp)).1
  have h2 := (N _ hm).1
  rw [e] at h1
  dsimp only at h2
  rw [h1] at h2
  have h3 := (congrArg Obj.cls (Option.some.inj h2)).symm.trans (ht p hp)
  rw [hc.1] at h3
  exact absurd (Value.type.inj h3) (by decide)
example : True := by
  (k_with "MY sub" => first | exact fun _ h => h | (refine sub_cons ?_; k_extra "MY sub"))
  (k_with "k_all!" => exact ltS_sub (by with_reducible assumption) (by k_extra "MY sub"))
  (k_with "k_all!" => exact ltS_sub2 (by with_reducible assumption) (by with_reducible assumption) (by k_extra "MY sub"))
  (k_with "k_all!" => with_reducible assumption)
  (k_with "compareOp NotIn!" => (k_here; (with_reducible show wpAny _ _ (compareOp CmpOp.NotIn (Value.ref _) (Value.ref _)) _ _ _); k_dflt (first | (refine' gate_absent ?N_z ?g_z ?s_z ?G_z ?k_z ?a_z ?l_z ?u_z ?n_z ?_; (case N_z => k_asm); (case g_z => k_mem); (case G_z => k_asm); (case k_z => k_asm); (case a_z => k_asm); (case s_z => k_extra "MY sub"); (case l_z => k_asm); (case u_z => ke_room); (case n_z => k_asm)) | (refine' gate_there ?N_z ?g_z ?s_z ?G_z ?k_z ?a_z ?l_z ?u_z ?n_z ?_; (case N_z => k_asm); (case g_z => k_mem); (case G_z => k_asm); (case k_z => k_asm); (case a_z => k_asm); (case s_z => k_extra "MY sub"); (case l_z => k_asm); (case u_z => ke_room); (case n_z => k_asm))); intro tk9'))
  (k_with "setItem ref ref!" => (k_here; k_dflt (refine' gate_put ?F_z ?N_z ?U_z ?s_z ?G_z ?k_z ?a_z ?u_z ?z_z ?n_z ?_; (case F_z => k_asm); (case N_z => k_asm); (case G_z => k_asm); (case U_z => k_updF); (case k_z => k_asm); (case a_z => k_asm); (case s_z => k_extra "MY sub"); (case u_z => ke_room); (case z_z => k_asm); (case n_z => k_asm)); intro h' tk' oG' G' hk' at' F' N'; (try dsimp only at N'); (try k_sweep)))
  (k_with "subscriptTail!" => (k_here; (with_reducible show wpAny _ _ (subscriptTail _ _ (Value.ref _) (Value.ref _)) _ _ _); k_dflt (refine' gate_get ?N_z ?g_z ?s_z ?G_z ?k_z ?a_z ?u_z ?p_z ?_; (case N_z => k_asm); (case g_z => k_mem); (case G_z => k_asm); (case k_z => k_asm); (case a_z => k_asm); (case s_z => k_extra "MY sub"); (case u_z => ke_room); (case p_z => k_asm)); intro tk9'))
  trivial
section
variable {w : World} {mean : ExcName → Option Value} {mg mb : Str → Option Value} {dp un : Nat} {gd : Option (List Code)} {base g : Heap} {fs : List Env} {s : Shared}
    {M dM gt a ka' : Addr} {m1 m2 m3 m4 m5 m6 tk : Tok} {hp sc gv wt v : Value} {ks : Str} {oG : Obj} {xs : List ((Int × List Int) × Addr × Value)} {k : Int × List Int} {tl : List (Addr × Obj)}
set_option rowWalk.seconds 0 in
set_option maxRecDepth 100000 in
set_option maxHeartbeats 8000000 in
theorem gate_new (G : Gd w mean mg mb ⟨none, dp, some fs, gd, un⟩ base fs g) (hx : Ext g s.heap) (hroom : dp ≤ 950) (hun : un ≤ 8900)
    (aps : Aps [M, dM, gt]) (tup : TupLed tl) (GG : GT w oG xs) (hk : ∀ x ∈ xs, KeyIn w tl x.1 x.2.1) (ka : KeyIn w tl k a) (lo : (gt == sysModules) = false) (hz : xs.length ≤ 100) (hno : atKey xs k = none) (hks : ks = Str.ofString "mutex" ∨ ks = Str.ofString "group")
    (N : NewsG g s.heap ((M, instObj 346 dM) :: (dM, metD w m1 m2 m3 m4 m5 m6 hp sc gv wt (.ref gt)) :: (gt, oG) :: tl)) :
    codeAny (model PR w) ⟨none, dp, some fs, gd, un⟩ (.call (.ref 308) ⟨[.ref M, .ref a, .str ks tk], []⟩)
      (Done s g (GateN w (fun o => (M, instObj 346 dM) :: (dM, metD w m1 m2 m3 m4 m5 m6 hp sc gv wt (.ref gt)) :: (gt, o) :: tl) k a xs g)) s := by
  refine unbx ?_
  simp (discharger := (k_dflt (
      have offT := offG N tup (fun _ h => .tail _ (.tail _ (.tail _ h))) (.tail _ (.tail _ (.head _))) GG.ex
      rcases hks with rfl | rfl
      all_goals
        refine enterG (binds := [(Str.ofString "self", .ref M), (Str.ofString "location", .ref a), (Str.ofString "kind", .str _ tk)]) G hx N (by k_is) (by k_is) (by exact Nat.lt_of_le_of_lt hroom (by decide)) (by exact BindsTo.of_eq rfl) (by exact locs rfl) ?_ (by exact rfl) (by exact rfl) (by exact rfl) (by decide)
        intro L' h' F' N'
        have B' := G.B
        have X' := G.X
        have T' := G.T
        clear N hx
        try dsimp only
        (try k_fold)
        k_steps
        all_goals (try dsimp only)
        rename Fr _ _ _ _ => F
        rename News _ _ _ _ => N
        exact Done.of F ⟨_, _, _, rfl, gate_sub (News.toG N), allc ⟨by k_ne, allc ⟨by k_ne, allc ⟨by k_ne, by k_all⟩⟩⟩, cls_rf, by assumption⟩))) only [↓bx]
set_option rowWalk.seconds 0 in
set_option maxRecDepth 100000 in
set_option maxHeartbeats 8000000 in
theorem gate_old (G : Gd w mean mg mb ⟨none, dp, some fs, gd, un⟩ base fs g) (hx : Ext g s.heap) (hroom : dp ≤ 950) (hun : un ≤ 8900)
    (GG : GT w oG xs) (hk : ∀ x ∈ xs, KeyIn w tl x.1 x.2.1) (ka : KeyIn w tl k a) (lo : (gt == sysModules) = false) (hat : atKey xs k = some (ka', v))
    (N : NewsG g s.heap ((M, instObj 346 dM) :: (dM, metD w m1 m2 m3 m4 m5 m6 hp sc gv wt (.ref gt)) :: (gt, oG) :: tl)) :
    codeAny (model PR w) ⟨none, dp, some fs, gd, un⟩ (.call (.ref 308) ⟨[.ref M, .ref a, .str ks tk], []⟩)
      (Done s g (RoPost ((M, instObj 346 dM) :: (dM, metD w m1 m2 m3 m4 m5 m6 hp sc gv wt (.ref gt)) :: (gt, oG) :: tl) v g)) s := by
  refine unbx ?_
  simp (discharger := (k_dflt (
      refine enterG (binds := [(Str.ofString "self", .ref M), (Str.ofString "location", .ref a), (Str.ofString "kind", .str ks tk)]) G hx N (by k_is) (by k_is) (by exact Nat.lt_of_le_of_lt hroom (by decide)) (by exact BindsTo.of_eq rfl) (by exact locs rfl) ?_ (by exact rfl) (by exact rfl) (by exact rfl) (by decide)
      intro L' h' F' N'
      have B' := G.B
      have X' := G.X
      have T' := G.T
      clear N hx
      try dsimp only
      (try k_fold)
      k_steps
      all_goals (try dsimp only)
      rename Fr _ _ _ _ => F
      rename News _ _ _ _ => N
      exact RoPost.of F N (by k_extra "MY sub") rfl))) only [↓bx]
end

end
section
example : True := by
  w_top off
  k_with_none
  (k_with "ite!" => with_reducible (first | refine itT ?_ | refine itF ?_ | refine itNT ?_ | refine itNF ?_))
  (k_with "subscriptTail Name Constant ref str!" => (k_here; k_dflt (refine' itemN (knd := PySem.strKind _ _) ?N_z ?m_z ?d_z (strKind_is _ _ _ _) ?r_z ?_ ?s_z ?g_z; (case N_z => k_asm); (case m_z => k_mem); (case d_z => k_asm); (case r_z => rfl); (case s_z => with_unfolding_all rfl); (case g_z => (intro _; with_unfolding_all rfl)))))
  (k_with "subscriptTail Name Constant ref int!" => (k_here; first | k_extra "subscriptTail!" | k_dflt (refine' item_tupleT ?t_z ?a_z ?b_z ?c_z ?d_z ?_; (case t_z => exact News.isTup (by k_asm) (by k_mem)); (case a_z => decide); (case b_z => decide); (case c_z => rfl); (case d_z => rfl); k_whole)))
  (k_with "eval Name!" => (k_here; k_dflt (refine' nameX_L ?F_z ?v_z ?_ ?a_z ?b_z; (case F_z => k_asm); (case a_z => rfl); (case b_z => rfl); (case v_z => rfl); k_whole)))
  (k_with "exec Assign!" => ((with_reducible show wpAny _ _ (exec (Stmt.Assign [Expr.Name _ _] _ _) _) _ _ _); with_reducible refine wpAny_Assign_Name ?_))
  (k_with "MY rd" => first | exact RdArgs.nil | (refine' RdArgs.name ?x_z ?d_z ?v_z ?r_z; (case x_z => rfl); (case d_z => decide); (case v_z => rfl); (case r_z => k_extra "MY rd")) | (refine' RdArgs.str ?r_z; (case r_z => k_extra "MY rd")) | (refine' RdArgs.int ?r_z; (case r_z => k_extra "MY rd")) | (refine' RdArgs.bool ?r_z; (case r_z => k_extra "MY rd")) | (refine' RdArgs.non ?r_z; (case r_z => k_extra "MY rd")))
  (k_with "spliced!" => (k_here; (first | with_reducible show wpAny _ _ (spliced (backTo _ (starEach (Expr.Name _ _ :: _) _))) _ _ _ | with_reducible show wpAny _ _ (spliced (backTo _ (starEach (Expr.Constant _ _ _ :: _) _))) _ _ _); k_dflt (refine' args_rd ?F_z ?k_z ?r_z ?_; (case F_z => k_asm); (case k_z => rfl); (case r_z => k_extra "MY rd"); k_whole); (try dsimp only [List.cons_append, List.nil_append])))
  (k_with "eval Constant str!" => with_reducible refine const_str ?_)
  (k_with "eval Constant int!" => with_reducible refine const_int ?_)
  (k_with "storeName!" => (k_here; k_dflt (refine' storeN ?F_z ?N_z ?_ ?a_z ?b_z; (case F_z => k_asm); (case N_z => k_asm); (case a_z => rfl); (case b_z => rfl); k_whole; intro hq' Fq' Nq'; (try k_sweep))))
  (k_with "unpackItems ref!" => (k_here; k_dflt (refine' unpackN ?k1_z ?k2_z ?k3_z ?k4_z ?k5_z ?_; (case k1_z => k_asm); (case k2_z => k_asm); (case k3_z => kun_tup); (case k4_z => exact rfl); (case k5_z => exact rfl); k_whole); intro hq' Fq' Nq'; (try k_sweep)))
  (k_with "newTuple cons!" => (k_here; (with_reducible show wpAny _ _ (newTuple [_, _]) _ _ _); k_dflt (first | (refine' tupTo2 ?F_z ?N_z ?k_z ?x_z ?y_z ?hh_z ?_; (case F_z => k_asm); (case N_z => k_asm); (case k_z => rfl); (case x_z => rfl); (case y_z => rfl); (case hh_z => exact rfl); k_whole) | (refine' tupTo2s ?F_z ?N_z ?t_z ?k_z ?x_z ?y_z ?hh_z ?_; (case F_z => k_asm); (case N_z => k_asm); (case t_z => with_unfolding_all rfl); (case k_z => rfl); (case x_z => rfl); (case y_z => rfl); (case hh_z => exact rfl); k_whole)); intro hq' Fq' Nq'; (try k_sweep)))
  (k_with "eval Subscript!" => (k_here; (with_reducible show wpAny _ _ (eval (Expr.Subscript (Expr.Name _ _) (Expr.Constant (Const.str _) _ _) _) _) _ _ _); k_dflt (refine' subName ?F_z ?N_z ?k_z ?x_z ?b_z ?v_z ?p_z ?o_z ?l_z ?_; (case F_z => k_asm); (case N_z => k_asm); (case k_z => rfl); (case x_z => rfl); (case b_z => decide); (case v_z => rfl); (case p_z => k_mem); (case o_z => k_asm); (case l_z => rfl); k_whole)))
  (k_with "execs cons!" => (k_here; (first | (with_reducible refine execs_gen ?_; intro tq') | with_reducible refine wpAny_execs_cons ?_); (try k_fold)))
  (k_with "k_room!" => first | (refine' rm_k ?h_z ?e_z; (case h_z => with_reducible assumption); (case e_z => rfl)) | ((try simp only [depth_under_make, depth_under_kw, depth_in1, depth_deeper, depth_caller]); show _ < 1000; (try dsimp only); omega))
  (k_with "ke_room!" => first | (refine' rm_u ?h_z ?e_z; (case h_z => with_reducible assumption); (case e_z => rfl)) | ((simp only [units_under_make, units_in1, units_deeper, Around.mark_units, units_caller]); show _ < 9900; (try dsimp only); omega))
  (k_with "MY room" => first | (refine' rm_le ?h_z ?e_z; (case h_z => with_reducible assumption); (case e_z => rfl)) | ((try simp only [depth_under_make, depth_under_kw, depth_in1, depth_deeper, depth_caller, units_under_make, units_in1, units_deeper, Around.mark_units, units_caller]); (try dsimp only); omega))
  (k_with "call ref!" => (k_here; (with_reducible show wpAny _ _ (call (Value.ref 723) _) _ _ _); k_dflt (refine' call_scoop ?k1_z ?k2_z ?k3_z ?k4_z ?k5_z ?U_z ?hf_z ?hk_z ?hr_z ?hu_z ?p1_z ?p4_z ?p5_z ?_; (case hf_z => exact rfl); (case hk_z => exact rfl); (case k1_z => k_asm); (case k2_z => k_asm); (case k3_z => k_asm); (case k4_z => k_asm); (case k5_z => k_asm); (case U_z => k_updF); (case hr_z => k_extra "MY room"); (case hu_z => k_extra "MY room"); (case p1_z => k_asm); (case p4_z => omega); (case p5_z => omega); k_whole); intro h' tk' r' tr' a' ta' b' tb' F' N' hr0' hr1' ok'; (try dsimp only at N'); (try k_sweep)))
  (k_with "ked_read!" => exact sel_reads (by with_reducible assumption))
  (k_with "subscriptTail!" => (k_here; (with_reducible show wpAny _ _ (subscriptTail _ _ (Value.ref _) (Value.int _ _)) _ _ _); k_dflt (refine' item_row ?N_z ?s_z ?m_z ?a_z ?b_z ?c_z ?d_z ?_; (case N_z => k_asm); (case m_z => with_reducible assumption); (case s_z => k_extra "MY sub"); (case a_z => decide); (case b_z => decide); (case c_z => rfl); (case d_z => rfl))))
  (k_with "eval Subscript!" => (k_here; (with_reducible show wpAny _ _ (eval (Expr.Subscript (Expr.Name _ _) (Expr.Constant (Const.int _) _ _) _) _) _ _ _); k_dflt (refine' rowName ?F_z ?N_z ?k_z ?x_z ?b_z ?v_z ?s_z ?m_z ?a_z ?c_z ?d_z ?_; (case F_z => k_asm); (case N_z => k_asm); (case k_z => rfl); (case x_z => rfl); (case b_z => decide); (case v_z => rfl); (case m_z => with_reducible assumption); (case s_z => k_extra "MY sub"); (case a_z => decide); (case c_z => rfl); (case d_z => rfl); k_whole)))
  (k_with "k_memK!" => first | (refine Bef.head ?_; k_memK) | (refine Bef.tail ?_; k_memK))
  (k_with "k_ne!" => (refine neN ?_; (try dsimp only); first | exact Aps.get (by with_reducible assumption) (by k_memK) | exact (Aps.get (by with_reducible assumption) (by k_memK)).symm | exact AllAp.get (by with_reducible assumption) (by k_memK) | exact (AllAp.get (by with_reducible assumption) (by k_memK)).symm | omega))
  (k_with "newTuple!" => (k_here; k_dflt (refine' newTupS ?F_z ?N_z ?z_z ?_; (case F_z => k_asm); (case N_z => k_asm); (case z_z => rfl); k_whole); intro Dq' hq' lq' Fq' Nq'; (try k_sweep)))
  (k_with "newList!" => (k_here; k_dflt (refine' newListS ?F_z ?N_z ?z_z ?_; (case F_z => k_asm); (case N_z => k_asm); (case z_z => rfl); k_whole); intro Dq' hq' lq' Fq' Nq'; (try k_sweep)))
  (k_with "MYM" => with_reducible (first | exact mm0 | exact mm1 | exact mm2 | exact mm3 | exact mm4 | exact mm5 | exact mm6 | exact mm7 | exact mm8 | exact mm9 | exact mm10 | exact mm11 | exact mm12 | exact mm13 | exact mm14 | exact mm15 | exact mm16 | exact mm17 | exact mm18 | exact mm19 | exact mm20 | exact mm21 | exact mm22 | exact mm23 | exact mm24 | exact mm25 | exact mm26 | exact mm27 | exact mm28 | exact mm29 | exact mm30 | exact mm31 | exact mm32 | exact mm33 | exact mm34 | exact mm35 | exact mm36 | exact mm37 | exact mm38 | exact mm39 | exact mm40 | exact mm41 | exact mm42 | exact mm43 | exact mm44 | exact mm45 | exact mm46 | exact mm47))
  (k_with "MYB" => (first | (with_reducible refine bf0 ?_) | (with_reducible refine bg0 ?_) | (with_reducible refine bf1 ?_) | (with_reducible refine bg1 ?_) | (with_reducible refine bf2 ?_) | (with_reducible refine bg2 ?_) | (with_reducible refine bf3 ?_) | (with_reducible refine bg3 ?_) | (with_reducible refine bf4 ?_) | (with_reducible refine bg4 ?_) | (with_reducible refine bf5 ?_) | (with_reducible refine bg5 ?_) | (with_reducible refine bf6 ?_) | (with_reducible refine bg6 ?_) | (with_reducible refine bf7 ?_) | (with_reducible refine bg7 ?_) | (with_reducible refine bf8 ?_) | (with_reducible refine bg8 ?_) | (with_reducible refine bf9 ?_) | (with_reducible refine bg9 ?_) | (with_reducible refine bf10 ?_) | (with_reducible refine bg10 ?_) | (with_reducible refine bf11 ?_) | (with_reducible refine bg11 ?_)); k_extra "MYM")
  (k_with "k_mem!" => k_extra "MYM")
  (k_with "k_all!" => exact ltS_all (by with_reducible assumption))
  (k_with "k_ne!" => (refine neN ?_; (try dsimp only); first | (refine' allLt_ne ?L_z ?M_z; (case L_z => with_reducible assumption); (case M_z => k_extra "MYM")) | (refine' lt_neS ?L_z ?M_z; (case L_z => with_reducible assumption); (case M_z => k_extra "MYM")) | (refine' aps_ne ?A_z ?B_z; (case A_z => with_reducible assumption); (case B_z => k_extra "MYB")) | (refine' lt_ne1 ?L_z ?M_z; (case L_z => with_reducible assumption); (case M_z => k_extra "MYM")) | (refine' lt_neS1 ?L_z ?M_z; (case L_z => with_reducible assumption); (case M_z => k_extra "MYM")) | exact ne_lt (by with_reducible assumption) | exact (ne_lt (by with_reducible assumption)).symm | (refine' allLt_ne2 ?e_z ?L_z ?M_z; (case e_z => with_reducible assumption); (case L_z => with_reducible assumption); (case M_z => k_extra "MYM")) | (refine' (allLt_ne2 ?e_z ?L_z ?M_z).symm; (case e_z => with_reducible assumption); (case L_z => with_reducible assumption); (case M_z => k_extra "MYM")) | exact AllAp.get (by with_reducible assumption) (by k_mem) | exact (AllAp.get (by with_reducible assumption) (by k_mem)).symm | fail "MY ne"))
  (k_with "MY split" => (repeat (rename (_ ∧ _) => hc9; obtain ⟨_, _⟩ := hc9)))
  (k_with "MY lts" => (repeat' (first | with_reducible assumption | exact True.intro | refine And.intro ?_ ?_)))
  (k_with "MY stay" => first | (refine' allk ?a9_z ?b9_z; (case a9_z => first | exact fun _ => News.get (by with_reducible assumption) (by k_mem) | exact fun h => absurd (by k_memK) h); (case b9_z => k_extra "MY stay")) | exact fun q hq _ => (by with_reducible assumption : News _ _ _ _).get ((by k_extra "MY sub" : ∀ p ∈ _, p ∈ _) q hq))
  (k_with "MY now" => first | exact List.forall_mem_nil _ | (refine' allk ?a9_z ?b9_z; (case a9_z => exact News.get (by with_reducible assumption) (by k_mem)); (case b9_z => k_extra "MY now")))
  (k_with "MY made" => first | exact List.forall_mem_nil _ | (refine' allk ?a9_z ?b9_z; (case a9_z => exact ⟨News.get (by with_reducible assumption) (by k_mem), News.fresh (by with_reducible assumption) (by k_mem)⟩); (case b9_z => k_extra "MY made")))
  (k_with "MY aps1" => first | (refine' ltS_ap ?L_z ?s_z; (case L_z => with_reducible assumption); (case s_z => first | exact fun h => h | exact fun h => h.2 | exact fun h => h.2.2 | exact fun h => h.2.2.2 | exact fun h => h.2.2.2.2 | exact fun h => h.2.2.2.2.2 | exact fun h => h.2.2.2.2.2.2 | exact fun h => h.2.2.2.2.2.2.2)) | exact allLt_ap (by k_extra "MY lts"))
  (k_with "MY apart" => first | exact List.forall_mem_nil _ | (refine' allk ?a9_z ?b9_z; (case a9_z => k_extra "MY aps1"); (case b9_z => k_extra "MY apart")))
  (k_with "MY step" => first | (k_unfold; (try dsimp only)) | (k_end; wrow_close) | walk1 | (dsimp only; walk1) | (leave1; walk_say "STEP leave1"; try dsimp only) | fail "no step")
  (k_with "MY sub" => exact fun _ h => List.mem_append_left _ h)
  (k_with "MY aps1" => first | (refine' ltS_ap2 ?e_z ?L_z ?s_z; (case e_z => with_reducible assumption); (case L_z => with_reducible assumption); (case s_z => first | exact fun h => h | exact fun h => h.2 | exact fun h => h.2.2 | exact fun h => h.2.2.2 | exact fun h => h.2.2.2.2 | exact fun h => h.2.2.2.2.2)) | fail "MY aps1")
  (k_with "MY lts" => (repeat' (first | with_reducible assumption | exact True.intro | refine And.intro ?_ ?_ | (show @LT.lt Nat _ _ _; omega))))
  trivial
example : True := by
  (k_with "MY ap2" => first | exact List.forall_mem_nil _ | (refine' allk ?a9_z ?b9_z; (case a9_z => k_ne); (case b9_z => k_extra "MY ap2")))
  trivial

def PDone (mu : List (Addr × Obj)) (g' : Heap) (v : Value) (h' : Heap) : Prop :=
  ∃ a u n, v = .ref a ∧ Chg mu [] [(a, tupOf #[.str (Str.ofString "passed") u] n)] g' h'
def PBlock (w : World) (mu : List (Addr × Obj)) (d place : Addr) (u1 u2 u3 u4 u5 : Tok) (num frv an : Value) (g' : Heap) (v : Value) (h' : Heap) : Prop :=
  ∃ a u n u8, v = .none ∧ Chg mu [(d, gorD w u1 u2 u3 u4 u5 num (.str (Str.ofString "blocked") u8) (.ref a) frv an)] [(a, tupOf #[.str (Str.ofString "sync") u, .ref place] n)] g' h'
def LetP (w : World) (mu : List (Addr × Obj)) (d : Addr) (u1 u2 u3 u4 u5 : Tok) (num frv : Value) (g' : Heap) (v : Value) (h' : Heap) : Prop :=
  ∃ a u n u8, v = .none ∧ Chg mu [(d, gorD w u1 u2 u3 u4 u5 num (.str (Str.ofString "ready") u8) .none frv (.ref a))] [(a, tupOf #[.str (Str.ofString "passed") u] n)] g' h'
def ChooseP (w : World) (mu : List (Addr × Obj)) (dS dc : Addr) (t1 t2 t3 c1 c2 : Tok) (ch al row x0 x1 x2 : Addr) (g' : Heap) (v : Value) (h' : Heap) : Prop :=
  ∃ xk u, (xk = x0 ∨ xk = x1 ∨ xk = x2) ∧ v = .ref xk ∧ Chg mu [(dS, schD w t1 t2 t3 (.ref ch) (.ref al) (.ref xk)), (dc, chcD w c1 c2 (.ref row) (.int 1 u))] [] g' h'
def ReadyP (mu : List (Addr × Obj)) (xa xb : Addr) (g' : Heap) (v : Value) (h' : Heap) : Prop :=
  ∃ l n, v = .ref l ∧ Chg mu [] [(l, listOf #[.ref xa, .ref xb] n)] g' h'
theorem item_at {w : World} {A : Around} {E : Value → Shared → Prop} {s : Shared} {g : Heap} {L l : Addr} {news : List (Addr × Obj)} {value slice : PySem.Expr} {vs : List Value} {k c : Int} {u : Tok} {n : Nat} {v : Value} {Q : Value → Shared → Prop}
    (N : News g L s.heap news) (hm : (l, listOf vs.toArray n) ∈ news) (hat : vs[k.toNat]? = some v) (h0 : 0 ≤ k) (hlt : k < c) (hc : (vs.length : Int) = c) (hhi : Nat.ble vs.length 1000 = true) (h : Q v s)
    (hs : subscripted slice false (.ref l) (.int k u) = operate [.ref l, .int k u] (getItem (.ref l) (.int k u)) := by with_unfolding_all rfl) :
    wpAny (model PR w) A (subscriptTail value slice (.ref l) (.int k u)) Q E s :=
  item_sym (isListN N hm) h0 (hc ▸ hlt) (Nat.le_of_ble_eq_true hhi) (fun v' e => by rw [hat] at e; cases e; exact h) hs
example : True := by
  (k_with "subscriptTail!" => (k_here; (with_reducible show wpAny _ _ (subscriptTail _ _ (Value.ref _) (Value.int _ _)) _ _ _); k_dflt (refine' item_at ?N_z ?m_z ?a_z ?h0_z ?h3_z ?c_z ?z_z ?_; (case N_z => k_asm); (case m_z => k_mem); (case a_z => with_reducible assumption); (case h0_z => with_reducible assumption); (case h3_z => with_reducible assumption); (case c_z => rfl); (case z_z => rfl))))
  trivial
section
variable {M dM S dS al ch dc row x d fr x0 x1 x2 d0 d1 d2 f0 f1 f2 nl place told : Addr} {m1 m2 m3 m4 m5 m6 t1 t2 t3 c1 c2 u1 u2 u3 u4 u5 u6 u7 a1 a2 a3 a4 a5 a6 a7 b1 b2 b3 b4 b5 b6 b7 tz tc tk : Tok} {n nr nt nn : Nat} {hp gv wt gdv wf an frv num alv chv st : Value} {c k : Int} {vs : List Value} {hr pv : Value}
variable {w : World} {mean : ExcName → Option Value} {mg mb : Str → Option Value} {dp un : Nat} {gd : Option (List Code)} {base g : Heap} {fs : List Env} {s : Shared}

set_option rowWalk.seconds 0 in
set_option maxRecDepth 100000 in
set_option maxHeartbeats 8000000 in
theorem passed_done  (G : Gd w mean mg mb ⟨none, dp, some fs, gd, un⟩ base fs g) (hx : Ext g s.heap) (hroom : dp ≤ 950) (hun : un ≤ 8900)
    (nm : num = .int k tk) 
    (N : NewsG g s.heap ((M, instObj 346 dM) :: (dM, metD w m1 m2 m3 m4 m5 m6 hp (.ref S) gv wt gdv) :: (S, instObj 705 dS) :: (dS, schD w t1 t2 t3 chv alv (.ref x)) :: (x, instObj 615 d) :: (d, gorD w u1 u2 u3 u4 u5 num st wf frv an) :: (told, tupOf #[.str (Str.ofString "done") tc] nt) :: [])) :
    codeAny (model PR w) ⟨none, dp, some fs, gd, un⟩ (.call (.ref 329) ⟨[.ref M, .ref place, .ref told], []⟩) (Done s g (PDone ((M, instObj 346 dM) :: (dM, metD w m1 m2 m3 m4 m5 m6 hp (.ref S) gv wt gdv) :: (S, instObj 705 dS) :: (dS, schD w t1 t2 t3 chv alv (.ref x)) :: (x, instObj 615 d) :: (d, gorD w u1 u2 u3 u4 u5 num st wf frv an) :: (told, tupOf #[.str (Str.ofString "done") tc] nt) :: []) g)) s := by
  refine unbx ?_
  simp (discharger := (k_dflt (
      refine enterG (binds := [(Str.ofString "self", .ref M), (Str.ofString "location", .ref place), (Str.ofString "told", .ref told)]) G hx N (by k_is) (by k_is) (by exact Nat.lt_of_le_of_lt hroom (by decide)) (by exact BindsTo.of_eq rfl) (by exact locs rfl) ?_ (by exact rfl) (by exact rfl) (by exact rfl) (by decide)
      intro L' h' F' N'
      have B' := G.B
      have X' := G.X
      have T' := G.T
      clear N hx
      try dsimp only
      (try k_fold)
      subst nm
      k_steps
      all_goals (try dsimp only)
      rename Fr _ _ _ _ => F
      refine' Done.of F ⟨_, _, _, rfl, ⟨?c1, ?c2, ?c3, ?c4⟩⟩
      case c3 => k_extra "MY made"
      case c1 => k_extra "MY stay"
      case c2 => k_extra "MY now"
      case c4 => k_extra "MY apart"))) only [↓bx]

set_option rowWalk.seconds 0 in
set_option maxRecDepth 100000 in
set_option maxHeartbeats 8000000 in
theorem passed_block  (G : Gd w mean mg mb ⟨none, dp, some fs, gd, un⟩ base fs g) (hx : Ext g s.heap) (hroom : dp ≤ 950) (hun : un ≤ 8900)
    (aps : Aps [M, dM, S, dS, x, d, told])
    (N : NewsG g s.heap ((M, instObj 346 dM) :: (dM, metD w m1 m2 m3 m4 m5 m6 hp (.ref S) gv wt gdv) :: (S, instObj 705 dS) :: (dS, schD w t1 t2 t3 chv alv (.ref x)) :: (x, instObj 615 d) :: (d, gorD w u1 u2 u3 u4 u5 num (.str (Str.ofString "ready") u7) wf frv an) :: (told, tupOf #[.str (Str.ofString "blocked") tc] nt) :: [])) :
    codeAny (model PR w) ⟨none, dp, some fs, gd, un⟩ (.call (.ref 329) ⟨[.ref M, .ref place, .ref told], []⟩) (Done s g (PBlock w ((M, instObj 346 dM) :: (dM, metD w m1 m2 m3 m4 m5 m6 hp (.ref S) gv wt gdv) :: (S, instObj 705 dS) :: (dS, schD w t1 t2 t3 chv alv (.ref x)) :: (x, instObj 615 d) :: (d, gorD w u1 u2 u3 u4 u5 num (.str (Str.ofString "ready") u7) wf frv an) :: (told, tupOf #[.str (Str.ofString "blocked") tc] nt) :: []) d place u1 u2 u3 u4 u5 num frv an g)) s := by
  refine unbx ?_
  simp (discharger := (k_dflt (
      refine enterG (binds := [(Str.ofString "self", .ref M), (Str.ofString "location", .ref place), (Str.ofString "told", .ref told)]) G hx N (by k_is) (by k_is) (by exact Nat.lt_of_le_of_lt hroom (by decide)) (by exact BindsTo.of_eq rfl) (by exact locs rfl) ?_ (by exact rfl) (by exact rfl) (by exact rfl) (by decide)
      intro L' h' F' N'
      have B' := G.B
      have X' := G.X
      have T' := G.T
      clear N hx
      try dsimp only
      (try k_fold)
      k_steps
      all_goals (try dsimp only)
      rename Fr _ _ _ _ => F
      refine' Done.of F ⟨_, _, _, _, rfl, ⟨?c1, ?c2, ?c3, ?c4⟩⟩
      case c3 => k_extra "MY made"
      case c1 => k_extra "MY stay"
      case c2 => k_extra "MY now"
      case c4 => k_extra "MY apart"))) only [↓bx]

set_option rowWalk.seconds 0 in
set_option maxRecDepth 100000 in
set_option maxHeartbeats 8000000 in
theorem let_g {x : Addr} (hk0 : 0 ≤ k) (hk3 : k < 3) (hat : [Value.ref x0, Value.ref x1, Value.ref x2][k.toNat]? = some (.ref x)) (G : Gd w mean mg mb ⟨none, dp, some fs, gd, un⟩ base fs g) (hx : Ext g s.heap) (hroom : dp ≤ 950) (hun : un ≤ 8900)
    (aps : Aps [M, dM, S, dS, al, x, d, nl])
    (N : NewsG g s.heap ((M, instObj 346 dM) :: (dM, metD w m1 m2 m3 m4 m5 m6 hp (.ref S) gv wt gdv) :: (S, instObj 705 dS) :: (dS, schD w t1 t2 t3 chv (.ref al) hr) :: (al, listOf #[.ref x0, .ref x1, .ref x2] n) :: (x, instObj 615 d) :: (d, gorD w u1 u2 u3 u4 u5 num (.str (Str.ofString "blocked") u7) wf frv an) :: (nl, listOf #[.int k tk] nn) :: [])) :
    codeAny (model PR w) ⟨none, dp, some fs, gd, un⟩ (.call (.ref 336) ⟨[.ref M, .ref place, .ref nl], []⟩) (Done s g (LetP w ((M, instObj 346 dM) :: (dM, metD w m1 m2 m3 m4 m5 m6 hp (.ref S) gv wt gdv) :: (S, instObj 705 dS) :: (dS, schD w t1 t2 t3 chv (.ref al) hr) :: (al, listOf #[.ref x0, .ref x1, .ref x2] n) :: (x, instObj 615 d) :: (d, gorD w u1 u2 u3 u4 u5 num (.str (Str.ofString "blocked") u7) wf frv an) :: (nl, listOf #[.int k tk] nn) :: []) d u1 u2 u3 u4 u5 num frv g)) s := by
  refine unbx ?_
  simp (discharger := (k_dflt (
      refine enterG (binds := [(Str.ofString "self", .ref M), (Str.ofString "location", .ref place), (Str.ofString "numbers", .ref nl)]) G hx N (by k_is) (by k_is) (by exact Nat.lt_of_le_of_lt hroom (by decide)) (by exact BindsTo.of_eq rfl) (by exact locs rfl) ?_ (by exact rfl) (by exact rfl) (by exact rfl) (by decide)
      intro L' h' F' N'
      have B' := G.B
      have X' := G.X
      have T' := G.T
      clear N hx
      try dsimp only
      (try k_fold)
      k_steps
      all_goals (try dsimp only)
      rename Fr _ _ _ _ => F
      refine' Done.of F ⟨_, _, _, _, rfl, ⟨?c1, ?c2, ?c3, ?c4⟩⟩
      case c3 => k_extra "MY made"
      case c1 => k_extra "MY stay"
      case c2 => k_extra "MY now"
      case c4 => k_extra "MY apart"))) only [↓bx]

end

end
section
example : True := by
  w_top off
  k_with_none
  (k_with "ite!" => with_reducible (first | refine itT ?_ | refine itF ?_ | refine itNT ?_ | refine itNF ?_))
  (k_with "subscriptTail Name Constant ref str!" => (k_here; k_dflt (refine' itemN (knd := PySem.strKind _ _) ?N_z ?m_z ?d_z (strKind_is _ _ _ _) ?r_z ?_ ?s_z ?g_z; (case N_z => k_asm); (case m_z => k_mem); (case d_z => k_asm); (case r_z => rfl); (case s_z => with_unfolding_all rfl); (case g_z => (intro _; with_unfolding_all rfl)))))
  (k_with "subscriptTail Name Constant ref int!" => (k_here; first | k_extra "subscriptTail!" | k_dflt (refine' item_tupleT ?t_z ?a_z ?b_z ?c_z ?d_z ?_; (case t_z => exact News.isTup (by k_asm) (by k_mem)); (case a_z => decide); (case b_z => decide); (case c_z => rfl); (case d_z => rfl); k_whole)))
  (k_with "eval Name!" => (k_here; k_dflt (refine' nameX_L ?F_z ?v_z ?_ ?a_z ?b_z; (case F_z => k_asm); (case a_z => rfl); (case b_z => rfl); (case v_z => rfl); k_whole)))
  (k_with "exec Assign!" => ((with_reducible show wpAny _ _ (exec (Stmt.Assign [Expr.Name _ _] _ _) _) _ _ _); with_reducible refine wpAny_Assign_Name ?_))
  (k_with "MY rd" => first | exact RdArgs.nil | (refine' RdArgs.name ?x_z ?d_z ?v_z ?r_z; (case x_z => rfl); (case d_z => decide); (case v_z => rfl); (case r_z => k_extra "MY rd")) | (refine' RdArgs.str ?r_z; (case r_z => k_extra "MY rd")) | (refine' RdArgs.int ?r_z; (case r_z => k_extra "MY rd")) | (refine' RdArgs.bool ?r_z; (case r_z => k_extra "MY rd")) | (refine' RdArgs.non ?r_z; (case r_z => k_extra "MY rd")))
  (k_with "spliced!" => (k_here; (first | with_reducible show wpAny _ _ (spliced (backTo _ (starEach (Expr.Name _ _ :: _) _))) _ _ _ | with_reducible show wpAny _ _ (spliced (backTo _ (starEach (Expr.Constant _ _ _ :: _) _))) _ _ _); k_dflt (refine' args_rd ?F_z ?k_z ?r_z ?_; (case F_z => k_asm); (case k_z => rfl); (case r_z => k_extra "MY rd"); k_whole); (try dsimp only [List.cons_append, List.nil_append])))
  (k_with "eval Constant str!" => with_reducible refine const_str ?_)
  (k_with "eval Constant int!" => with_reducible refine const_int ?_)
  (k_with "storeName!" => (k_here; k_dflt (refine' storeN ?F_z ?N_z ?_ ?a_z ?b_z; (case F_z => k_asm); (case N_z => k_asm); (case a_z => rfl); (case b_z => rfl); k_whole; intro hq' Fq' Nq'; (try k_sweep))))
  (k_with "unpackItems ref!" => (k_here; k_dflt (refine' unpackN ?k1_z ?k2_z ?k3_z ?k4_z ?k5_z ?_; (case k1_z => k_asm); (case k2_z => k_asm); (case k3_z => kun_tup); (case k4_z => exact rfl); (case k5_z => exact rfl); k_whole); intro hq' Fq' Nq'; (try k_sweep)))
  (k_with "newTuple cons!" => (k_here; (with_reducible show wpAny _ _ (newTuple [_, _]) _ _ _); k_dflt (first | (refine' tupTo2 ?F_z ?N_z ?k_z ?x_z ?y_z ?hh_z ?_; (case F_z => k_asm); (case N_z => k_asm); (case k_z => rfl); (case x_z => rfl); (case y_z => rfl); (case hh_z => exact rfl); k_whole) | (refine' tupTo2s ?F_z ?N_z ?t_z ?k_z ?x_z ?y_z ?hh_z ?_; (case F_z => k_asm); (case N_z => k_asm); (case t_z => with_unfolding_all rfl); (case k_z => rfl); (case x_z => rfl); (case y_z => rfl); (case hh_z => exact rfl); k_whole)); intro hq' Fq' Nq'; (try k_sweep)))
  (k_with "eval Subscript!" => (k_here; (with_reducible show wpAny _ _ (eval (Expr.Subscript (Expr.Name _ _) (Expr.Constant (Const.str _) _ _) _) _) _ _ _); k_dflt (refine' subName ?F_z ?N_z ?k_z ?x_z ?b_z ?v_z ?p_z ?o_z ?l_z ?_; (case F_z => k_asm); (case N_z => k_asm); (case k_z => rfl); (case x_z => rfl); (case b_z => decide); (case v_z => rfl); (case p_z => k_mem); (case o_z => k_asm); (case l_z => rfl); k_whole)))
  (k_with "execs cons!" => (k_here; (first | (with_reducible refine execs_gen ?_; intro tq') | with_reducible refine wpAny_execs_cons ?_); (try k_fold)))
  (k_with "k_room!" => first | (refine' rm_k ?h_z ?e_z; (case h_z => with_reducible assumption); (case e_z => rfl)) | ((try simp only [depth_under_make, depth_under_kw, depth_in1, depth_deeper, depth_caller]); show _ < 1000; (try dsimp only); omega))
  (k_with "ke_room!" => first | (refine' rm_u ?h_z ?e_z; (case h_z => with_reducible assumption); (case e_z => rfl)) | ((simp only [units_under_make, units_in1, units_deeper, Around.mark_units, units_caller]); show _ < 9900; (try dsimp only); omega))
  (k_with "MY room" => first | (refine' rm_le ?h_z ?e_z; (case h_z => with_reducible assumption); (case e_z => rfl)) | ((try simp only [depth_under_make, depth_under_kw, depth_in1, depth_deeper, depth_caller, units_under_make, units_in1, units_deeper, Around.mark_units, units_caller]); (try dsimp only); omega))
  (k_with "call ref!" => (k_here; (with_reducible show wpAny _ _ (call (Value.ref 723) _) _ _ _); k_dflt (refine' call_scoop ?k1_z ?k2_z ?k3_z ?k4_z ?k5_z ?U_z ?hf_z ?hk_z ?hr_z ?hu_z ?p1_z ?p4_z ?p5_z ?_; (case hf_z => exact rfl); (case hk_z => exact rfl); (case k1_z => k_asm); (case k2_z => k_asm); (case k3_z => k_asm); (case k4_z => k_asm); (case k5_z => k_asm); (case U_z => k_updF); (case hr_z => k_extra "MY room"); (case hu_z => k_extra "MY room"); (case p1_z => k_asm); (case p4_z => omega); (case p5_z => omega); k_whole); intro h' tk' r' tr' a' ta' b' tb' F' N' hr0' hr1' ok'; (try dsimp only at N'); (try k_sweep)))
  (k_with "ked_read!" => exact sel_reads (by with_reducible assumption))
  (k_with "subscriptTail!" => (k_here; (with_reducible show wpAny _ _ (subscriptTail _ _ (Value.ref _) (Value.int _ _)) _ _ _); k_dflt (refine' item_row ?N_z ?s_z ?m_z ?a_z ?b_z ?c_z ?d_z ?_; (case N_z => k_asm); (case m_z => with_reducible assumption); (case s_z => k_extra "MY sub"); (case a_z => decide); (case b_z => decide); (case c_z => rfl); (case d_z => rfl))))
  (k_with "eval Subscript!" => (k_here; (with_reducible show wpAny _ _ (eval (Expr.Subscript (Expr.Name _ _) (Expr.Constant (Const.int _) _ _) _) _) _ _ _); k_dflt (refine' rowName ?F_z ?N_z ?k_z ?x_z ?b_z ?v_z ?s_z ?m_z ?a_z ?c_z ?d_z ?_; (case F_z => k_asm); (case N_z => k_asm); (case k_z => rfl); (case x_z => rfl); (case b_z => decide); (case v_z => rfl); (case m_z => with_reducible assumption); (case s_z => k_extra "MY sub"); (case a_z => decide); (case c_z => rfl); (case d_z => rfl); k_whole)))
  (k_with "k_memK!" => first | (refine Bef.head ?_; k_memK) | (refine Bef.tail ?_; k_memK))
  (k_with "k_ne!" => (refine neN ?_; (try dsimp only); first | exact Aps.get (by with_reducible assumption) (by k_memK) | exact (Aps.get (by with_reducible assumption) (by k_memK)).symm | exact AllAp.get (by with_reducible assumption) (by k_memK) | exact (AllAp.get (by with_reducible assumption) (by k_memK)).symm | omega))
  (k_with "newTuple!" => (k_here; k_dflt (refine' newTupS ?F_z ?N_z ?z_z ?_; (case F_z => k_asm); (case N_z => k_asm); (case z_z => rfl); k_whole); intro Dq' hq' lq' Fq' Nq'; (try k_sweep)))
  (k_with "newList!" => (k_here; k_dflt (refine' newListS ?F_z ?N_z ?z_z ?_; (case F_z => k_asm); (case N_z => k_asm); (case z_z => rfl); k_whole); intro Dq' hq' lq' Fq' Nq'; (try k_sweep)))
  (k_with "MYM" => with_reducible (first | exact mm0 | exact mm1 | exact mm2 | exact mm3 | exact mm4 | exact mm5 | exact mm6 | exact mm7 | exact mm8 | exact mm9 | exact mm10 | exact mm11 | exact mm12 | exact mm13 | exact mm14 | exact mm15 | exact mm16 | exact mm17 | exact mm18 | exact mm19 | exact mm20 | exact mm21 | exact mm22 | exact mm23 | exact mm24 | exact mm25 | exact mm26 | exact mm27 | exact mm28 | exact mm29 | exact mm30 | exact mm31 | exact mm32 | exact mm33 | exact mm34 | exact mm35 | exact mm36 | exact mm37 | exact mm38 | exact mm39 | exact mm40 | exact mm41 | exact mm42 | exact mm43 | exact mm44 | exact mm45 | exact mm46 | exact mm47))
  (k_with "MYB" => (first | (with_reducible refine bf0 ?_) | (with_reducible refine bg0 ?_) | (with_reducible refine bf1 ?_) | (with_reducible refine bg1 ?_) | (with_reducible refine bf2 ?_) | (with_reducible refine bg2 ?_) | (with_reducible refine bf3 ?_) | (with_reducible refine bg3 ?_) | (with_reducible refine bf4 ?_) | (with_reducible refine bg4 ?_) | (with_reducible refine bf5 ?_) | (with_reducible refine bg5 ?_) | (with_reducible refine bf6 ?_) | (with_reducible refine bg6 ?_) | (with_reducible refine bf7 ?_) | (with_reducible refine bg7 ?_) | (with_reducible refine bf8 ?_) | (with_reducible refine bg8 ?_) | (with_reducible refine bf9 ?_) | (with_reducible refine bg9 ?_) | (with_reducible refine bf10 ?_) | (with_reducible refine bg10 ?_) | (with_reducible refine bf11 ?_) | (with_reducible refine bg11 ?_)); k_extra "MYM")
  (k_with "k_mem!" => k_extra "MYM")
  (k_with "k_all!" => exact ltS_all (by with_reducible assumption))
  (k_with "k_ne!" => (refine neN ?_; (try dsimp only); first | (refine' allLt_ne ?L_z ?M_z; (case L_z => with_reducible assumption); (case M_z => k_extra "MYM")) | (refine' lt_neS ?L_z ?M_z; (case L_z => with_reducible assumption); (case M_z => k_extra "MYM")) | (refine' aps_ne ?A_z ?B_z; (case A_z => with_reducible assumption); (case B_z => k_extra "MYB")) | (refine' lt_ne1 ?L_z ?M_z; (case L_z => with_reducible assumption); (case M_z => k_extra "MYM")) | (refine' lt_neS1 ?L_z ?M_z; (case L_z => with_reducible assumption); (case M_z => k_extra "MYM")) | exact ne_lt (by with_reducible assumption) | exact (ne_lt (by with_reducible assumption)).symm | (refine' allLt_ne2 ?e_z ?L_z ?M_z; (case e_z => with_reducible assumption); (case L_z => with_reducible assumption); (case M_z => k_extra "MYM")) | (refine' (allLt_ne2 ?e_z ?L_z ?M_z).symm; (case e_z => with_reducible assumption); (case L_z => with_reducible assumption); (case M_z => k_extra "MYM")) | exact AllAp.get (by with_reducible assumption) (by k_mem) | exact (AllAp.get (by with_reducible assumption) (by k_mem)).symm | fail "MY ne"))
  (k_with "MY split" => (repeat (rename (_ ∧ _) => hc9; obtain ⟨_, _⟩ := hc9)))
  (k_with "MY lts" => (repeat' (first | with_reducible assumption | exact True.intro | refine And.intro ?_ ?_)))
  (k_with "MY stay" => first | (refine' allk ?a9_z ?b9_z; (case a9_z => first | exact fun _ => News.get (by with_reducible assumption) (by k_mem) | exact fun h => absurd (by k_memK) h); (case b9_z => k_extra "MY stay")) | exact fun q hq _ => (by with_reducible assumption : News _ _ _ _).get ((by k_extra "MY sub" : ∀ p ∈ _, p ∈ _) q hq))
  (k_with "MY now" => first | exact List.forall_mem_nil _ | (refine' allk ?a9_z ?b9_z; (case a9_z => exact News.get (by with_reducible assumption) (by k_mem)); (case b9_z => k_extra "MY now")))
  (k_with "MY made" => first | exact List.forall_mem_nil _ | (refine' allk ?a9_z ?b9_z; (case a9_z => exact ⟨News.get (by with_reducible assumption) (by k_mem), News.fresh (by with_reducible assumption) (by k_mem)⟩); (case b9_z => k_extra "MY made")))
  (k_with "MY aps1" => first | (refine' ltS_ap ?L_z ?s_z; (case L_z => with_reducible assumption); (case s_z => first | exact fun h => h | exact fun h => h.2 | exact fun h => h.2.2 | exact fun h => h.2.2.2 | exact fun h => h.2.2.2.2 | exact fun h => h.2.2.2.2.2 | exact fun h => h.2.2.2.2.2.2 | exact fun h => h.2.2.2.2.2.2.2)) | exact allLt_ap (by k_extra "MY lts"))
  (k_with "MY apart" => first | exact List.forall_mem_nil _ | (refine' allk ?a9_z ?b9_z; (case a9_z => k_extra "MY aps1"); (case b9_z => k_extra "MY apart")))
  (k_with "MY step" => first | (k_unfold; (try dsimp only)) | (k_end; wrow_close) | walk1 | (dsimp only; walk1) | (leave1; walk_say "STEP leave1"; try dsimp only) | fail "no step")
  (k_with "MY sub" => exact fun _ h => List.mem_append_left _ h)
  (k_with "MY aps1" => first | (refine' ltS_ap2 ?e_z ?L_z ?s_z; (case e_z => with_reducible assumption); (case L_z => with_reducible assumption); (case s_z => first | exact fun h => h | exact fun h => h.2 | exact fun h => h.2.2 | exact fun h => h.2.2.2 | exact fun h => h.2.2.2.2 | exact fun h => h.2.2.2.2.2)) | fail "MY aps1")
  (k_with "MY lts" => (repeat' (first | with_reducible assumption | exact True.intro | refine And.intro ?_ ?_ | (show @LT.lt Nat _ _ _; omega))))
  (k_with "k_all!" => first | exact ltS_all (by with_reducible assumption) | exact allAp_all (by with_reducible assumption))
  (k_with "k_in!" => first | with_reducible assumption | exact Frag.In.keeps (by with_reducible assumption) (Fr.keep (by with_reducible assumption)))
  (k_with "MY lt" => with_reducible assumption)
  (k_with "k_ne!" => (refine neN ?_; (try dsimp only); first | exact allLt_ne (by with_reducible assumption) (by k_mem) | exact (allLt_ne (by with_reducible assumption) (by k_mem)).symm | exact ne_lt (by with_reducible assumption) | exact (ne_lt (by with_reducible assumption)).symm | exact allLt_ne2 (by with_reducible assumption) (by with_reducible assumption) (by k_mem) | exact (allLt_ne2 (by with_reducible assumption) (by with_reducible assumption) (by k_mem)).symm | exact Aps.get (by with_reducible assumption) (by k_memK) | exact (Aps.get (by with_reducible assumption) (by k_memK)).symm | exact AllAp.get (by with_reducible assumption) (by k_mem) | exact (AllAp.get (by with_reducible assumption) (by k_mem)).symm | exact off3_i (by with_reducible assumption) (by k_mem) | exact off3_c (by with_reducible assumption) (by k_mem) | exact off3_d (by with_reducible assumption) (by k_mem) | exact (off3_i (by with_reducible assumption) (by k_mem)).symm | exact (off3_c (by with_reducible assumption) (by k_mem)).symm | exact (off3_d (by with_reducible assumption) (by k_mem)).symm | exact off1_d (by with_reducible assumption) (by k_mem) | exact (off1_d (by with_reducible assumption) (by k_mem)).symm | exact Ap3.ic (by with_reducible assumption) | exact Ap3.id (by with_reducible assumption) | exact Ap3.cd (by with_reducible assumption) | exact (Ap3.ic (by with_reducible assumption)).symm | exact (Ap3.id (by with_reducible assumption)).symm | exact (Ap3.cd (by with_reducible assumption)).symm | omega))
  (k_with "CompRest!" => (with_unfolding_all first | (refine LCg.CompRest.succ ?_; intro v' I' oI' C' oC' D' m' h' tk' E' hv' hC' hx' F' N' off' ne'; (first | lcg_open hv' | (obtain ⟨t9', hv9'⟩ := hv'; subst hv9')); (replace ne' := Ap3.of ne'); (replace off' := Off3S.mk off')) | refine LCg.CompRest.zero ?_))
  (k_with "CompRestT!" => (with_unfolding_all first | (refine LCt.CompRestT.succ ?_; intro v' I' oI' C' oC' D' m' h' tk' E' hv' hC' hx' F' N' off' ne'; (first | lcg_open hv' | (obtain ⟨t9', hv9'⟩ := hv'; subst hv9')); (replace ne' := Ap3.of ne'); (replace off' := Off3S.mk off')) | refine LCt.CompRestT.zero ?_))
  (k_with "FinE!" => ((unfold LCg.FinE); intro D' h' tk' F' N' o1'; (replace o1' := Off1S.mk o1'); (try simp only [List.nil_append, List.cons_append] at N'); (try dsimp only)))
  (k_with "FinA!" => ((unfold LCg.FinA); intro D' h' tk' F' N' o1'; (replace o1' := Off1S.mk o1'); (try simp only [List.nil_append, List.cons_append] at N'); (try dsimp only)))
  trivial
example : True := by
  (k_with "MY ap2" => first | exact List.forall_mem_nil _ | (refine' allk ?a9_z ?b9_z; (case a9_z => k_ne); (case b9_z => k_extra "MY ap2")))
  trivial
theorem eq_lens {w : World} {A : Around} {E : Value → Shared → Prop} {s : Shared} {g : Heap} {L a b : Addr} {xs ys : Array Value} {n k : Nat} {news : List (Addr × Obj)} {Q : Value → Shared → Prop} (N : News g L s.heap news) (ma : (a, listOf xs n) ∈ news) (mb : (b, listOf ys k) ∈ news)
    (hs : (xs.size != ys.size) = true) (hu : A.units + 64 < cLine) (h : Q (.bool false) s) : wpAny (model PR w) A (compareOp .Eq (.ref a) (.ref b)) Q E s :=
  PySem.EqBoolInt.of_rc (SeqAt.RcAt.lists_lengths (isListN N ma) (isListN N mb) hs (by omega)) h
example : True := by
  (k_with "compareOp Eq ref ref!" => (k_here; (with_reducible show wpAny _ _ (compareOp CmpOp.Eq (Value.ref _) (Value.ref _)) _ _ _); k_dflt (refine' eq_lens ?N_z ?a_z ?b_z ?s_z ?u_z ?_; (case N_z => k_asm); (case a_z => k_mem); (case b_z => k_mem); (case s_z => rfl); (case u_z => ke_room))))
  trivial
theorem item_mod3 {w : World} {A : Around} {E : Value → Shared → Prop} {s : Shared} {g : Heap} {L l x0 x1 x2 : Addr} {news : List (Addr × Obj)} {value slice : PySem.Expr} {c : Int} {u : Tok} {n : Nat} {Q : Value → Shared → Prop}
    (N : News g L s.heap news) (hm : (l, listOf #[.ref x0, .ref x1, .ref x2] n) ∈ news) (h : ∀ x, (x = x0 ∨ x = x1 ∨ x = x2) → Q (.ref x) s)
    (hs : subscripted slice false (.ref l) (.int (c.fmod 3) u) = operate [.ref l, .int (c.fmod 3) u] (getItem (.ref l) (.int (c.fmod 3) u)) := by with_unfolding_all rfl) :
    wpAny (model PR w) A (subscriptTail value slice (.ref l) (.int (c.fmod 3) u)) Q E s :=
  item_sym (vs := [.ref x0, .ref x1, .ref x2]) (isListN N hm) (Int.fmod_nonneg_of_pos _ (by decide)) (Int.fmod_lt_of_pos _ (by decide)) (Nat.le_of_ble_eq_true rfl) (fun v' e => by
    have hv := List.mem_of_getElem? e
    simp only [List.mem_cons, List.not_mem_nil, or_false] at hv
    rcases hv with rfl | rfl | rfl
    · exact h _ (.inl rfl)
    · exact h _ (.inr (.inl rfl))
    · exact h _ (.inr (.inr rfl))) hs
example : True := by
  (k_with "subscriptTail Name Call!" => (k_here; (with_reducible show wpAny _ _ (subscriptTail _ _ (Value.ref _) (Value.int _ _)) _ _ _); k_dflt (refine' item_mod3 ?N_z ?m_z ?_; (case N_z => k_asm); (case m_z => k_mem)); intro xk' hxk'))
  trivial
section
variable {M dM S dS al ch dc row x d fr x0 x1 x2 d0 d1 d2 f0 f1 f2 nl place told : Addr} {m1 m2 m3 m4 m5 m6 t1 t2 t3 c1 c2 u1 u2 u3 u4 u5 u6 u7 a1 a2 a3 a4 a5 a6 a7 b1 b2 b3 b4 b5 b6 b7 tz tc tk : Tok} {n nr nt nn : Nat} {hp gv wt gdv wf an frv num alv chv st : Value} {c k : Int} {vs : List Value} {hr pv : Value}
variable {w : World} {mean : ExcName → Option Value} {mg mb : Str → Option Value} {dp un : Nat} {gd : Option (List Code)} {base g : Heap} {fs : List Env} {s : Shared}

set_option rowWalk.seconds 0 in
set_option maxRecDepth 100000 in
set_option maxHeartbeats 8000000 in
theorem choose_spec  (G : Gd w mean mg mb ⟨none, dp, some fs, gd, un⟩ base fs g) (hx : Ext g s.heap) (hroom : dp ≤ 950) (hun : un ≤ 8900)
    (aps : Aps [S, dS, al, x0, d0, x1, d1, x2, d2, ch, dc, row]) (hc0 : 0 ≤ c) (hc3 : c < 3)
    (N : NewsG g s.heap ((S, instObj 705 dS) :: (dS, schD w t1 t2 t3 (.ref ch) (.ref al) hr) :: (al, listOf #[.ref x0, .ref x1, .ref x2] n) :: (x0, instObj 615 d0) :: (d0, gorD w u1 u2 u3 u4 u5 (.int 0 u6) (.str (Str.ofString "ready") u7) .none (.ref f0) .none) :: (x1, instObj 615 d1) :: (d1, gorD w a1 a2 a3 a4 a5 (.int 1 a6) (.str (Str.ofString "ready") a7) .none (.ref f1) .none) :: (x2, instObj 615 d2) :: (d2, gorD w b1 b2 b3 b4 b5 (.int 2 b6) (.str (Str.ofString "ready") b7) .none (.ref f2) .none) :: (ch, instObj 461 dc) :: (dc, chcD w c1 c2 (.ref row) (.int 0 tz)) :: (row, listOf #[.int c tc] nr) :: [])) :
    codeAny (model PR w) ⟨none, dp, some fs, gd, un⟩ (.call (.ref 688) ⟨[.ref S], []⟩) (Done s g (ChooseP w ((S, instObj 705 dS) :: (dS, schD w t1 t2 t3 (.ref ch) (.ref al) hr) :: (al, listOf #[.ref x0, .ref x1, .ref x2] n) :: (x0, instObj 615 d0) :: (d0, gorD w u1 u2 u3 u4 u5 (.int 0 u6) (.str (Str.ofString "ready") u7) .none (.ref f0) .none) :: (x1, instObj 615 d1) :: (d1, gorD w a1 a2 a3 a4 a5 (.int 1 a6) (.str (Str.ofString "ready") a7) .none (.ref f1) .none) :: (x2, instObj 615 d2) :: (d2, gorD w b1 b2 b3 b4 b5 (.int 2 b6) (.str (Str.ofString "ready") b7) .none (.ref f2) .none) :: (ch, instObj 461 dc) :: (dc, chcD w c1 c2 (.ref row) (.int 0 tz)) :: (row, listOf #[.int c tc] nr) :: []) dS dc t1 t2 t3 c1 c2 ch al row x0 x1 x2 g)) s := by
  refine unbx ?_
  simp (discharger := (k_dflt (
      refine enterG (binds := [(Str.ofString "self", .ref S)]) G hx N (by k_is) (by k_is) (by exact Nat.lt_of_le_of_lt hroom (by decide)) (by exact BindsTo.of_eq rfl) (by exact locs rfl) ?_ (by exact rfl) (by exact rfl) (by exact rfl) (by decide)
      intro L' h' F' N'
      have B' := G.B
      have X' := G.X
      have T' := G.T
      clear N hx
      try dsimp only
      (try k_fold)
      k_steps
      all_goals (try dsimp only)
      all_goals (rename Fr _ _ _ _ => F)
      all_goals (refine' Done.of F ⟨_, _, ?c0, rfl, ⟨?c1, ?c2, ?c3, ?c4⟩⟩; (case c3 => exact List.forall_mem_nil _); (case c4 => exact List.forall_mem_nil _); (case c0 => first | assumption | exact .inl rfl | exact .inr (.inl rfl) | exact .inr (.inr rfl)); (case c1 => k_extra "MY stay"); (case c2 => k_extra "MY now"))))) only [↓bx]

set_option rowWalk.seconds 0 in
set_option maxRecDepth 100000 in
set_option maxHeartbeats 8000000 in
theorem ready_0  (G : Gd w mean mg mb ⟨none, dp, some fs, gd, un⟩ base fs g) (hx : Ext g s.heap) (hroom : dp ≤ 950) (hun : un ≤ 8900)
    (aps : Aps [S, dS, al, x0, d0, x1, d1, x2, d2])
    (N : NewsG g s.heap ((S, instObj 705 dS) :: (dS, schD w t1 t2 t3 chv (.ref al) hr) :: (al, listOf #[.ref x0, .ref x1, .ref x2] n) :: (x0, instObj 615 d0) :: (d0, gorD w u1 u2 u3 u4 u5 (.int 0 u6) (.str (Str.ofString "blocked") u7) wf (.ref f0) .none) :: (x1, instObj 615 d1) :: (d1, gorD w a1 a2 a3 a4 a5 (.int 1 a6) (.str (Str.ofString "ready") a7) .none (.ref f1) .none) :: (x2, instObj 615 d2) :: (d2, gorD w b1 b2 b3 b4 b5 (.int 2 b6) (.str (Str.ofString "ready") b7) .none (.ref f2) .none) :: [])) :
    codeAny (model PR w) ⟨none, dp, some fs, gd, un⟩ (.call (.ref 652) ⟨[.ref S], []⟩) (Done s g (ReadyP ((S, instObj 705 dS) :: (dS, schD w t1 t2 t3 chv (.ref al) hr) :: (al, listOf #[.ref x0, .ref x1, .ref x2] n) :: (x0, instObj 615 d0) :: (d0, gorD w u1 u2 u3 u4 u5 (.int 0 u6) (.str (Str.ofString "blocked") u7) wf (.ref f0) .none) :: (x1, instObj 615 d1) :: (d1, gorD w a1 a2 a3 a4 a5 (.int 1 a6) (.str (Str.ofString "ready") a7) .none (.ref f1) .none) :: (x2, instObj 615 d2) :: (d2, gorD w b1 b2 b3 b4 b5 (.int 2 b6) (.str (Str.ofString "ready") b7) .none (.ref f2) .none) :: []) x1 x2 g)) s := by
  refine unbx ?_
  simp (discharger := (k_dflt (
      refine enterG (binds := [(Str.ofString "self", .ref S)]) G hx N (by k_is) (by k_is) (by exact Nat.lt_of_le_of_lt hroom (by decide)) (by exact BindsTo.of_eq rfl) (by exact locs rfl) ?_ (by exact rfl) (by exact rfl) (by exact rfl) (by decide)
      intro L' h' F' N'
      have B' := G.B
      have X' := G.X
      have T' := G.T
      clear N hx
      try dsimp only
      (try k_fold)
      k_steps
      all_goals (try dsimp only)
      rename Fr _ _ _ _ => F
      refine' Done.of F ⟨_, _, rfl, ⟨?c1, ?c2, ?c3, ?c4⟩⟩
      case c3 => k_extra "MY made"
      case c1 => k_extra "MY stay"
      case c2 => k_extra "MY now"
      case c4 => exact allc ⟨by k_extra "MY ap2", List.forall_mem_nil _⟩))) only [↓bx]

set_option rowWalk.seconds 0 in
set_option maxRecDepth 100000 in
set_option maxHeartbeats 8000000 in
theorem ready_1  (G : Gd w mean mg mb ⟨none, dp, some fs, gd, un⟩ base fs g) (hx : Ext g s.heap) (hroom : dp ≤ 950) (hun : un ≤ 8900)
    (aps : Aps [S, dS, al, x0, d0, x1, d1, x2, d2])
    (N : NewsG g s.heap ((S, instObj 705 dS) :: (dS, schD w t1 t2 t3 chv (.ref al) hr) :: (al, listOf #[.ref x0, .ref x1, .ref x2] n) :: (x0, instObj 615 d0) :: (d0, gorD w u1 u2 u3 u4 u5 (.int 0 u6) (.str (Str.ofString "ready") u7) .none (.ref f0) .none) :: (x1, instObj 615 d1) :: (d1, gorD w a1 a2 a3 a4 a5 (.int 1 a6) (.str (Str.ofString "blocked") a7) wf (.ref f1) .none) :: (x2, instObj 615 d2) :: (d2, gorD w b1 b2 b3 b4 b5 (.int 2 b6) (.str (Str.ofString "ready") b7) .none (.ref f2) .none) :: [])) :
    codeAny (model PR w) ⟨none, dp, some fs, gd, un⟩ (.call (.ref 652) ⟨[.ref S], []⟩) (Done s g (ReadyP ((S, instObj 705 dS) :: (dS, schD w t1 t2 t3 chv (.ref al) hr) :: (al, listOf #[.ref x0, .ref x1, .ref x2] n) :: (x0, instObj 615 d0) :: (d0, gorD w u1 u2 u3 u4 u5 (.int 0 u6) (.str (Str.ofString "ready") u7) .none (.ref f0) .none) :: (x1, instObj 615 d1) :: (d1, gorD w a1 a2 a3 a4 a5 (.int 1 a6) (.str (Str.ofString "blocked") a7) wf (.ref f1) .none) :: (x2, instObj 615 d2) :: (d2, gorD w b1 b2 b3 b4 b5 (.int 2 b6) (.str (Str.ofString "ready") b7) .none (.ref f2) .none) :: []) x0 x2 g)) s := by
  refine unbx ?_
  simp (discharger := (k_dflt (
      refine enterG (binds := [(Str.ofString "self", .ref S)]) G hx N (by k_is) (by k_is) (by exact Nat.lt_of_le_of_lt hroom (by decide)) (by exact BindsTo.of_eq rfl) (by exact locs rfl) ?_ (by exact rfl) (by exact rfl) (by exact rfl) (by decide)
      intro L' h' F' N'
      have B' := G.B
      have X' := G.X
      have T' := G.T
      clear N hx
      try dsimp only
      (try k_fold)
      k_steps
      all_goals (try dsimp only)
      rename Fr _ _ _ _ => F
      refine' Done.of F ⟨_, _, rfl, ⟨?c1, ?c2, ?c3, ?c4⟩⟩
      case c3 => k_extra "MY made"
      case c1 => k_extra "MY stay"
      case c2 => k_extra "MY now"
      case c4 => exact allc ⟨by k_extra "MY ap2", List.forall_mem_nil _⟩))) only [↓bx]

set_option rowWalk.seconds 0 in
set_option maxRecDepth 100000 in
set_option maxHeartbeats 8000000 in
theorem ready_2  (G : Gd w mean mg mb ⟨none, dp, some fs, gd, un⟩ base fs g) (hx : Ext g s.heap) (hroom : dp ≤ 950) (hun : un ≤ 8900)
    (aps : Aps [S, dS, al, x0, d0, x1, d1, x2, d2])
    (N : NewsG g s.heap ((S, instObj 705 dS) :: (dS, schD w t1 t2 t3 chv (.ref al) hr) :: (al, listOf #[.ref x0, .ref x1, .ref x2] n) :: (x0, instObj 615 d0) :: (d0, gorD w u1 u2 u3 u4 u5 (.int 0 u6) (.str (Str.ofString "ready") u7) .none (.ref f0) .none) :: (x1, instObj 615 d1) :: (d1, gorD w a1 a2 a3 a4 a5 (.int 1 a6) (.str (Str.ofString "ready") a7) .none (.ref f1) .none) :: (x2, instObj 615 d2) :: (d2, gorD w b1 b2 b3 b4 b5 (.int 2 b6) (.str (Str.ofString "blocked") b7) wf (.ref f2) .none) :: [])) :
    codeAny (model PR w) ⟨none, dp, some fs, gd, un⟩ (.call (.ref 652) ⟨[.ref S], []⟩) (Done s g (ReadyP ((S, instObj 705 dS) :: (dS, schD w t1 t2 t3 chv (.ref al) hr) :: (al, listOf #[.ref x0, .ref x1, .ref x2] n) :: (x0, instObj 615 d0) :: (d0, gorD w u1 u2 u3 u4 u5 (.int 0 u6) (.str (Str.ofString "ready") u7) .none (.ref f0) .none) :: (x1, instObj 615 d1) :: (d1, gorD w a1 a2 a3 a4 a5 (.int 1 a6) (.str (Str.ofString "ready") a7) .none (.ref f1) .none) :: (x2, instObj 615 d2) :: (d2, gorD w b1 b2 b3 b4 b5 (.int 2 b6) (.str (Str.ofString "blocked") b7) wf (.ref f2) .none) :: []) x0 x1 g)) s := by
  refine unbx ?_
  simp (discharger := (k_dflt (
      refine enterG (binds := [(Str.ofString "self", .ref S)]) G hx N (by k_is) (by k_is) (by exact Nat.lt_of_le_of_lt hroom (by decide)) (by exact BindsTo.of_eq rfl) (by exact locs rfl) ?_ (by exact rfl) (by exact rfl) (by exact rfl) (by decide)
      intro L' h' F' N'
      have B' := G.B
      have X' := G.X
      have T' := G.T
      clear N hx
      try dsimp only
      (try k_fold)
      k_steps
      all_goals (try dsimp only)
      rename Fr _ _ _ _ => F
      refine' Done.of F ⟨_, _, rfl, ⟨?c1, ?c2, ?c3, ?c4⟩⟩
      case c3 => k_extra "MY made"
      case c1 => k_extra "MY stay"
      case c2 => k_extra "MY now"
      case c4 => exact allc ⟨by k_extra "MY ap2", List.forall_mem_nil _⟩))) only [↓bx]
end

end
section
example : True := by
  w_top off
  k_with_none
  (k_with "ite!" => with_reducible (first | refine itT ?_ | refine itF ?_ | refine itNT ?_ | refine itNF ?_))
  (k_with "subscriptTail Name Constant ref str!" => (k_here; k_dflt (refine' itemN (knd := PySem.strKind _ _) ?N_z ?m_z ?d_z (strKind_is _ _ _ _) ?r_z ?_ ?s_z ?g_z; (case N_z => k_asm); (case m_z => k_mem); (case d_z => k_asm); (case r_z => rfl); (case s_z => with_unfolding_all rfl); (case g_z => (intro _; with_unfolding_all rfl)))))
  (k_with "subscriptTail Name Constant ref int!" => (k_here; first | k_extra "subscriptTail!" | k_dflt (refine' item_tupleT ?t_z ?a_z ?b_z ?c_z ?d_z ?_; (case t_z => exact News.isTup (by k_asm) (by k_mem)); (case a_z => decide); (case b_z => decide); (case c_z => rfl); (case d_z => rfl); k_whole)))
  (k_with "eval Name!" => (k_here; k_dflt (refine' nameX_L ?F_z ?v_z ?_ ?a_z ?b_z; (case F_z => k_asm); (case a_z => rfl); (case b_z => rfl); (case v_z => rfl); k_whole)))
  (k_with "exec Assign!" => ((with_reducible show wpAny _ _ (exec (Stmt.Assign [Expr.Name _ _] _ _) _) _ _ _); with_reducible refine wpAny_Assign_Name ?_))
  (k_with "MY rd" => first | exact RdArgs.nil | (refine' RdArgs.name ?x_z ?d_z ?v_z ?r_z; (case x_z => rfl); (case d_z => decide); (case v_z => rfl); (case r_z => k_extra "MY rd")) | (refine' RdArgs.str ?r_z; (case r_z => k_extra "MY rd")) | (refine' RdArgs.int ?r_z; (case r_z => k_extra "MY rd")) | (refine' RdArgs.bool ?r_z; (case r_z => k_extra "MY rd")) | (refine' RdArgs.non ?r_z; (case r_z => k_extra "MY rd")))
  (k_with "spliced!" => (k_here; (first | with_reducible show wpAny _ _ (spliced (backTo _ (starEach (Expr.Name _ _ :: _) _))) _ _ _ | with_reducible show wpAny _ _ (spliced (backTo _ (starEach (Expr.Constant _ _ _ :: _) _))) _ _ _); k_dflt (refine' args_rd ?F_z ?k_z ?r_z ?_; (case F_z => k_asm); (case k_z => rfl); (case r_z => k_extra "MY rd"); k_whole); (try dsimp only [List.cons_append, List.nil_append])))
  (k_with "eval Constant str!" => with_reducible refine const_str ?_)
  (k_with "eval Constant int!" => with_reducible refine const_int ?_)
  (k_with "storeName!" => (k_here; k_dflt (refine' storeN ?F_z ?N_z ?_ ?a_z ?b_z; (case F_z => k_asm); (case N_z => k_asm); (case a_z => rfl); (case b_z => rfl); k_whole; intro hq' Fq' Nq'; (try k_sweep))))
  (k_with "unpackItems ref!" => (k_here; k_dflt (refine' unpackN ?k1_z ?k2_z ?k3_z ?k4_z ?k5_z ?_; (case k1_z => k_asm); (case k2_z => k_asm); (case k3_z => kun_tup); (case k4_z => exact rfl); (case k5_z => exact rfl); k_whole); intro hq' Fq' Nq'; (try k_sweep)))
  (k_with "newTuple cons!" => (k_here; (with_reducible show wpAny _ _ (newTuple [_, _]) _ _ _); k_dflt (first | (refine' tupTo2 ?F_z ?N_z ?k_z ?x_z ?y_z ?hh_z ?_; (case F_z => k_asm); (case N_z => k_asm); (case k_z => rfl); (case x_z => rfl); (case y_z => rfl); (case hh_z => exact rfl); k_whole) | (refine' tupTo2s ?F_z ?N_z ?t_z ?k_z ?x_z ?y_z ?hh_z ?_; (case F_z => k_asm); (case N_z => k_asm); (case t_z => with_unfolding_all rfl); (case k_z => rfl); (case x_z => rfl); (case y_z => rfl); (case hh_z => exact rfl); k_whole)); intro hq' Fq' Nq'; (try k_sweep)))
  (k_with "eval Subscript!" => (k_here; (with_reducible show wpAny _ _ (eval (Expr.Subscript (Expr.Name _ _) (Expr.Constant (Const.str _) _ _) _) _) _ _ _); k_dflt (refine' subName ?F_z ?N_z ?k_z ?x_z ?b_z ?v_z ?p_z ?o_z ?l_z ?_; (case F_z => k_asm); (case N_z => k_asm); (case k_z => rfl); (case x_z => rfl); (case b_z => decide); (case v_z => rfl); (case p_z => k_mem); (case o_z => k_asm); (case l_z => rfl); k_whole)))
  (k_with "execs cons!" => (k_here; (first | (with_reducible refine execs_gen ?_; intro tq') | with_reducible refine wpAny_execs_cons ?_); (try k_fold)))
  trivial
section
variable {w : World} {mean : ExcName → Option Value} {mg mb : Str → Option Value} {A₀ : Around} {dp un : Nat} {gd : Option (List Code)} {base g : Heap} {outer : List Env} {L : Addr} {m : Str → Option Value} {env : Env} {s : Shared} {E : Value → Shared → Prop} {Q : Value → Shared → Prop}
    {M dM S dS al ch dc row x d fr x0 x1 x2 d0 d1 d2 f0 f1 f2 nl place told a gt ka' : Addr} {m1 m2 m3 m4 m5 m6 t1 t2 t3 c1 c2 u1 u2 u3 u4 u5 u6 u7 a1 a2 a3 a4 a5 a6 a7 b1 b2 b3 b4 b5 b6 b7 tz tc tk : Tok} {n nr nt nn : Nat} {hp gv wt gdv wf an frv num alv chv st sc v : Value} {c kn : Int} {vs : List Value} {hr pv : Value} {news tl : List (Addr × Obj)} {gf gf2 : Obj → List (Addr × Obj)} {ks : Str} {oG : Obj} {xs : List ((Int × List Int) × Addr × Value)} {kk : Int × List Int}
theorem call_spawnA (B : Below A₀ base outer g) (X : (Mine.hd0.heap_1_1 w.params).In g) (T : Top PV LO mean mg mb g) (F : Fr g L s.heap m) (N : News g L s.heap news)
    (h1 : (S, instObj 705 dS) ∈ news) (h2 : (dS, schD w t1 t2 t3 (.ref ch) (.ref al) .none) ∈ news) (h3 : (al, listOf vs.toArray n) ∈ news) (hf : env.frame = some L) (hke : env.scope.kind = .function) (hroom : dp ≤ 900) (hun : un ≤ 8500) (aps : Aps [S, dS, al]) (ln : vs.length ≤ 100) (hk : (vs.length : Int) = kn) {gx : Addr → Obj → List (Addr × Obj)} (U : UpdF al (listOf vs.toArray n) news gf) (U2 : ∀ x : Addr, UpdF dS (schD w t1 t2 t3 (.ref ch) (.ref al) .none) (gf (listOf (vs ++ [Value.ref x]).toArray (n + 1))) (gx x))
    (k : ∀ x d fr u1 u2 u3 u4 u5 u6 u7 h' tk, Fr g L h' m → News g L h' ((x, instObj 615 d) :: (d, gorD w u1 u2 u3 u4 u5 (.int kn u6) (.str (Str.ofString "ready") u7) .none (.ref fr) .none) :: (fr, listOf #[] 0) :: gx x (schD w t1 t2 t3 (.ref ch) (.ref al) (.ref x))) → AllAp x news → AllAp d news → AllAp fr news → Aps [x, d, fr] → Q (.ref x) { s with heap := h', toks := tk }) :
    wpAny (model PR w) ⟨none, dp, some (env :: outer), gd, un⟩ (call (.ref 640) [.ref S]) Q E s := by
  subst hk
  have hsub : ∀ p ∈ (S, instObj 705 dS) :: (dS, schD w t1 t2 t3 (.ref ch) (.ref al) .none) :: (al, listOf vs.toArray n) :: [], p ∈ news := allc ⟨h1, allc ⟨h2, allc ⟨h3, List.forall_mem_nil _⟩⟩⟩
  refine callI ((S, instObj 705 dS) :: (dS, schD w t1 t2 t3 (.ref ch) (.ref al) .none) :: (al, listOf vs.toArray n) :: []) B X T F rfl hf hke (fun p hp => N p (hsub p hp)) (fun g' G hx N' => spawn_A (z := 0) G hx (by omega) (by omega) aps ln N') ?_
  rintro v h' tk g' F' keep keep' toN ⟨x, d, fr, u1, u2, u3, u4, u5, u6, u7, rfl, Y, ne⟩
  have made := toN _ Y.made
  have ap := made_apart N hsub keep' Y
  exact k x d fr u1 u2 u3 u4 u5 u6 u7 h' tk F' (put1 made (.head _) (put1 made (.tail _ (.head _)) (put1 made (.tail _ (.tail _ (.head _))) (newsChg2 N U (U2 x) hsub keep Y)))) (ap _ (.head _)) (ap _ (.tail _ (.head _))) (ap _ (.tail _ (.tail _ (.head _)))) ne
theorem call_spawnB (B : Below A₀ base outer g) (X : (Mine.hd0.heap_1_1 w.params).In g) (T : Top PV LO mean mg mb g) (F : Fr g L s.heap m) (N : News g L s.heap news)
    (h1 : (S, instObj 705 dS) ∈ news) (h2 : (dS, schD w t1 t2 t3 (.ref ch) (.ref al) (.ref x0)) ∈ news) (h3 : (al, listOf vs.toArray n) ∈ news) (hf : env.frame = some L) (hke : env.scope.kind = .function) (hroom : dp ≤ 900) (hun : un ≤ 8500) (aps : Aps [S, dS, al]) (ln : vs.length ≤ 100) (hk : (vs.length : Int) = kn) (U : UpdF al (listOf vs.toArray n) news gf)
    (k : ∀ x d fr u1 u2 u3 u4 u5 u6 u7 h' tk, Fr g L h' m → News g L h' ((x, instObj 615 d) :: (d, gorD w u1 u2 u3 u4 u5 (.int kn u6) (.str (Str.ofString "ready") u7) .none (.ref fr) .none) :: (fr, listOf #[] 0) :: gf (listOf (vs ++ [Value.ref x]).toArray (n + 1))) → AllAp x news → AllAp d news → AllAp fr news → Aps [x, d, fr] → Q (.ref x) { s with heap := h', toks := tk }) :
    wpAny (model PR w) ⟨none, dp, some (env :: outer), gd, un⟩ (call (.ref 640) [.ref S]) Q E s := by
  subst hk
  have hsub : ∀ p ∈ (S, instObj 705 dS) :: (dS, schD w t1 t2 t3 (.ref ch) (.ref al) (.ref x0)) :: (al, listOf vs.toArray n) :: [], p ∈ news := allc ⟨h1, allc ⟨h2, allc ⟨h3, List.forall_mem_nil _⟩⟩⟩
  refine callI ((S, instObj 705 dS) :: (dS, schD w t1 t2 t3 (.ref ch) (.ref al) (.ref x0)) :: (al, listOf vs.toArray n) :: []) B X T F rfl hf hke (fun p hp => N p (hsub p hp)) (fun g' G hx N' => spawn_B G hx (Nat.le_trans hroom (by decide)) (Nat.le_trans hun (by decide)) aps ln N') ?_
  rintro v h' tk g' F' keep keep' toN ⟨x, d, fr, u1, u2, u3, u4, u5, u6, u7, rfl, Y, ne⟩
  have made := toN _ Y.made
  have ap := made_apart N hsub keep' Y
  exact k x d fr u1 u2 u3 u4 u5 u6 u7 h' tk F' (put1 made (.head _) (put1 made (.tail _ (.head _)) (put1 made (.tail _ (.tail _ (.head _))) (newsChg1 N U hsub keep Y)))) (ap _ (.head _)) (ap _ (.tail _ (.head _))) (ap _ (.tail _ (.tail _ (.head _)))) ne
theorem call_pdone (B : Below A₀ base outer g) (X : (Mine.hd0.heap_1_1 w.params).In g) (T : Top PV LO mean mg mb g) (F : Fr g L s.heap m) (N : News g L s.heap news)
    (h1 : (M, instObj 346 dM) ∈ news) (h2 : (dM, metD w m1 m2 m3 m4 m5 m6 hp (.ref S) gv wt gdv) ∈ news) (h3 : (S, instObj 705 dS) ∈ news) (h4 : (dS, schD w t1 t2 t3 chv alv (.ref x)) ∈ news) (h5 : (x, instObj 615 d) ∈ news) (h6 : (d, gorD w u1 u2 u3 u4 u5 (.int kn tk) st wf frv an) ∈ news) (h7 : (told, tupOf #[.str (Str.ofString "done") tc] nt) ∈ news) (hf : env.frame = some L) (hke : env.scope.kind = .function) (hroom : dp ≤ 900) (hun : un ≤ 8500)  
    (k : ∀ a u n h' tk, Fr g L h' m → News g L h' ((a, tupOf #[.str (Str.ofString "passed") u] n) :: news) → AllAp a news → Q (.ref a) { s with heap := h', toks := tk }) :
    wpAny (model PR w) ⟨none, dp, some (env :: outer), gd, un⟩ (call (.ref 329) [.ref M, .ref place, .ref told]) Q E s := by
  have hsub : ∀ p ∈ (M, instObj 346 dM) :: (dM, metD w m1 m2 m3 m4 m5 m6 hp (.ref S) gv wt gdv) :: (S, instObj 705 dS) :: (dS, schD w t1 t2 t3 chv alv (.ref x)) :: (x, instObj 615 d) :: (d, gorD w u1 u2 u3 u4 u5 (.int kn tk) st wf frv an) :: (told, tupOf #[.str (Str.ofString "done") tc] nt) :: [], p ∈ news := allc ⟨h1, allc ⟨h2, allc ⟨h3, allc ⟨h4, allc ⟨h5, allc ⟨h6, allc ⟨h7, List.forall_mem_nil _⟩⟩⟩⟩⟩⟩⟩
  refine callI ((M, instObj 346 dM) :: (dM, metD w m1 m2 m3 m4 m5 m6 hp (.ref S) gv wt gdv) :: (S, instObj 705 dS) :: (dS, schD w t1 t2 t3 chv alv (.ref x)) :: (x, instObj 615 d) :: (d, gorD w u1 u2 u3 u4 u5 (.int kn tk) st wf frv an) :: (told, tupOf #[.str (Str.ofString "done") tc] nt) :: []) B X T F rfl hf hke (fun p hp => N p (hsub p hp)) (fun g' G hx N' => passed_done G hx (Nat.le_trans hroom (by decide)) (Nat.le_trans hun (by decide)) rfl N') ?_
  rintro v h' tk g' F' keep keep' toN ⟨a, u, n, rfl, Y⟩
  have made := toN _ Y.made
  have ap := made_apart N hsub keep' Y
  exact k a u n h' tk F' (put1 made (.head _) (newsChg0 N hsub keep Y)) (ap _ (.head _))
theorem call_pblock (B : Below A₀ base outer g) (X : (Mine.hd0.heap_1_1 w.params).In g) (T : Top PV LO mean mg mb g) (F : Fr g L s.heap m) (N : News g L s.heap news)
    (h1 : (M, instObj 346 dM) ∈ news) (h2 : (dM, metD w m1 m2 m3 m4 m5 m6 hp (.ref S) gv wt gdv) ∈ news) (h3 : (S, instObj 705 dS) ∈ news) (h4 : (dS, schD w t1 t2 t3 chv alv (.ref x)) ∈ news) (h5 : (x, instObj 615 d) ∈ news) (h6 : (d, gorD w u1 u2 u3 u4 u5 num (.str (Str.ofString "ready") u7) wf frv an) ∈ news) (h7 : (told, tupOf #[.str (Str.ofString "blocked") tc] nt) ∈ news) (hf : env.frame = some L) (hke : env.scope.kind = .function) (hroom : dp ≤ 900) (hun : un ≤ 8500) (aps : Aps [M, dM, S, dS, x, d, told]) (U : UpdF d (gorD w u1 u2 u3 u4 u5 num (.str (Str.ofString "ready") u7) wf frv an) news gf)
    (k : ∀ a u n u8 h' tk, Fr g L h' m → News g L h' ((a, tupOf #[.str (Str.ofString "sync") u, .ref place] n) :: gf (gorD w u1 u2 u3 u4 u5 num (.str (Str.ofString "blocked") u8) (.ref a) frv an)) → AllAp a news → Q .none { s with heap := h', toks := tk }) :
    wpAny (model PR w) ⟨none, dp, some (env :: outer), gd, un⟩ (call (.ref 329) [.ref M, .ref place, .ref told]) Q E s := by
  have hsub : ∀ p ∈ (M, instObj 346 dM) :: (dM, metD w m1 m2 m3 m4 m5 m6 hp (.ref S) gv wt gdv) :: (S, instObj 705 dS) :: (dS, schD w t1 t2 t3 chv alv (.ref x)) :: (x, instObj 615 d) :: (d, gorD w u1 u2 u3 u4 u5 num (.str (Str.ofString "ready") u7) wf frv an) :: (told, tupOf #[.str (Str.ofString "blocked") tc] nt) :: [], p ∈ news := allc ⟨h1, allc ⟨h2, allc ⟨h3, allc ⟨h4, allc ⟨h5, allc ⟨h6, allc ⟨h7, List.forall_mem_nil _⟩⟩⟩⟩⟩⟩⟩
  refine callI ((M, instObj 346 dM) :: (dM, metD w m1 m2 m3 m4 m5 m6 hp (.ref S) gv wt gdv) :: (S, instObj 705 dS) :: (dS, schD w t1 t2 t3 chv alv (.ref x)) :: (x, instObj 615 d) :: (d, gorD w u1 u2 u3 u4 u5 num (.str (Str.ofString "ready") u7) wf frv an) :: (told, tupOf #[.str (Str.ofString "blocked") tc] nt) :: []) B X T F rfl hf hke (fun p hp => N p (hsub p hp)) (fun g' G hx N' => passed_block G hx (Nat.le_trans hroom (by decide)) (Nat.le_trans hun (by decide)) aps N') ?_
  rintro v h' tk g' F' keep keep' toN ⟨a, u, n, u8, rfl, Y⟩
  have made := toN _ Y.made
  have ap := made_apart N hsub keep' Y
  exact k a u n u8 h' tk F' (put1 made (.head _) (newsChg1 N U hsub keep Y)) (ap _ (.head _))
theorem call_letX (hk0 : 0 ≤ kn) (hk3 : kn < 3) (hat : [Value.ref x0, Value.ref x1, Value.ref x2][kn.toNat]? = some (.ref x)) (B : Below A₀ base outer g) (X : (Mine.hd0.heap_1_1 w.params).In g) (T : Top PV LO mean mg mb g) (F : Fr g L s.heap m) (N : News g L s.heap news)
    (h1 : (M, instObj 346 dM) ∈ news) (h2 : (dM, metD w m1 m2 m3 m4 m5 m6 hp (.ref S) gv wt gdv) ∈ news) (h3 : (S, instObj 705 dS) ∈ news) (h4 : (dS, schD w t1 t2 t3 chv (.ref al) hr) ∈ news) (h5 : (al, listOf #[.ref x0, .ref x1, .ref x2] n) ∈ news) (h6 : (x, instObj 615 d) ∈ news) (h7 : (d, gorD w u1 u2 u3 u4 u5 num (.str (Str.ofString "blocked") u7) wf frv an) ∈ news) (h8 : (nl, listOf #[.int kn tk] nn) ∈ news) (hf : env.frame = some L) (hke : env.scope.kind = .function) (hroom : dp ≤ 900) (hun : un ≤ 8500) (aps : Aps [M, dM, S, dS, al, x, d, nl]) (U : UpdF d (gorD w u1 u2 u3 u4 u5 num (.str (Str.ofString "blocked") u7) wf frv an) news gf)
    (k : ∀ a u n u8 h' tk, Fr g L h' m → News g L h' ((a, tupOf #[.str (Str.ofString "passed") u] n) :: gf (gorD w u1 u2 u3 u4 u5 num (.str (Str.ofString "ready") u8) .none frv (.ref a))) → AllAp a news → Q .none { s with heap := h', toks := tk }) :
    wpAny (model PR w) ⟨none, dp, some (env :: outer), gd, un⟩ (call (.ref 336) [.ref M, .ref place, .ref nl]) Q E s := by
  have hsub : ∀ p ∈ (M, instObj 346 dM) :: (dM, metD w m1 m2 m3 m4 m5 m6 hp (.ref S) gv wt gdv) :: (S, instObj 705 dS) :: (dS, schD w t1 t2 t3 chv (.ref al) hr) :: (al, listOf #[.ref x0, .ref x1, .ref x2] n) :: (x, instObj 615 d) :: (d, gorD w u1 u2 u3 u4 u5 num (.str (Str.ofString "blocked") u7) wf frv an) :: (nl, listOf #[.int kn tk] nn) :: [], p ∈ news := allc ⟨h1, allc ⟨h2, allc ⟨h3, allc ⟨h4, allc ⟨h5, allc ⟨h6, allc ⟨h7, allc ⟨h8, List.forall_mem_nil _⟩⟩⟩⟩⟩⟩⟩⟩
  refine callI ((M, instObj 346 dM) :: (dM, metD w m1 m2 m3 m4 m5 m6 hp (.ref S) gv wt gdv) :: (S, instObj 705 dS) :: (dS, schD w t1 t2 t3 chv (.ref al) hr) :: (al, listOf #[.ref x0, .ref x1, .ref x2] n) :: (x, instObj 615 d) :: (d, gorD w u1 u2 u3 u4 u5 num (.str (Str.ofString "blocked") u7) wf frv an) :: (nl, listOf #[.int kn tk] nn) :: []) B X T F rfl hf hke (fun p hp => N p (hsub p hp)) (fun g' G hx N' => let_g hk0 hk3 hat G hx (Nat.le_trans hroom (by decide)) (Nat.le_trans hun (by decide)) aps N') ?_
  rintro v h' tk g' F' keep keep' toN ⟨a, u, n, u8, rfl, Y⟩
  have made := toN _ Y.made
  have ap := made_apart N hsub keep' Y
  exact k a u n u8 h' tk F' (put1 made (.head _) (newsChg1 N U hsub keep Y)) (ap _ (.head _))
theorem call_choose (B : Below A₀ base outer g) (X : (Mine.hd0.heap_1_1 w.params).In g) (T : Top PV LO mean mg mb g) (F : Fr g L s.heap m) (N : News g L s.heap news)
    (h1 : (S, instObj 705 dS) ∈ news) (h2 : (dS, schD w t1 t2 t3 (.ref ch) (.ref al) hr) ∈ news) (h3 : (al, listOf #[.ref x0, .ref x1, .ref x2] n) ∈ news) (h4 : (x0, instObj 615 d0) ∈ news) (h5 : (d0, gorD w u1 u2 u3 u4 u5 (.int 0 u6) (.str (Str.ofString "ready") u7) .none (.ref f0) .none) ∈ news) (h6 : (x1, instObj 615 d1) ∈ news) (h7 : (d1, gorD w a1 a2 a3 a4 a5 (.int 1 a6) (.str (Str.ofString "ready") a7) .none (.ref f1) .none) ∈ news) (h8 : (x2, instObj 615 d2) ∈ news) (h9 : (d2, gorD w b1 b2 b3 b4 b5 (.int 2 b6) (.str (Str.ofString "ready") b7) .none (.ref f2) .none) ∈ news) (h10 : (ch, instObj 461 dc) ∈ news) (h11 : (dc, chcD w c1 c2 (.ref row) (.int 0 tz)) ∈ news) (h12 : (row, listOf #[.int c tc] nr) ∈ news) (hf : env.frame = some L) (hke : env.scope.kind = .function) (hroom : dp ≤ 900) (hun : un ≤ 8500) (aps : Aps [S, dS, al, x0, d0, x1, d1, x2, d2, ch, dc, row]) (hc0 : 0 ≤ c) (hc3 : c < 3) {gx : Addr → Obj → List (Addr × Obj)} (U : UpdF dS (schD w t1 t2 t3 (.ref ch) (.ref al) hr) news gf) (U2 : ∀ xk : Addr, UpdF dc (chcD w c1 c2 (.ref row) (.int 0 tz)) (gf (schD w t1 t2 t3 (.ref ch) (.ref al) (.ref xk))) (gx xk))
    (k0 : ∀ u h' tk, Fr g L h' m → News g L h' (gx x0 (chcD w c1 c2 (.ref row) (.int 1 u))) → Q (.ref x0) { s with heap := h', toks := tk }) (k1 : ∀ u h' tk, Fr g L h' m → News g L h' (gx x1 (chcD w c1 c2 (.ref row) (.int 1 u))) → Q (.ref x1) { s with heap := h', toks := tk }) (k2 : ∀ u h' tk, Fr g L h' m → News g L h' (gx x2 (chcD w c1 c2 (.ref row) (.int 1 u))) → Q (.ref x2) { s with heap := h', toks := tk })  :
    wpAny (model PR w) ⟨none, dp, some (env :: outer), gd, un⟩ (call (.ref 688) [.ref S]) Q E s := by
  have hsub : ∀ p ∈ (S, instObj 705 dS) :: (dS, schD w t1 t2 t3 (.ref ch) (.ref al) hr) :: (al, listOf #[.ref x0, .ref x1, .ref x2] n) :: (x0, instObj 615 d0) :: (d0, gorD w u1 u2 u3 u4 u5 (.int 0 u6) (.str (Str.ofString "ready") u7) .none (.ref f0) .none) :: (x1, instObj 615 d1) :: (d1, gorD w a1 a2 a3 a4 a5 (.int 1 a6) (.str (Str.ofString "ready") a7) .none (.ref f1) .none) :: (x2, instObj 615 d2) :: (d2, gorD w b1 b2 b3 b4 b5 (.int 2 b6) (.str (Str.ofString "ready") b7) .none (.ref f2) .none) :: (ch, instObj 461 dc) :: (dc, chcD w c1 c2 (.ref row) (.int 0 tz)) :: (row, listOf #[.int c tc] nr) :: [], p ∈ news := allc ⟨h1, allc ⟨h2, allc ⟨h3, allc ⟨h4, allc ⟨h5, allc ⟨h6, allc ⟨h7, allc ⟨h8, allc ⟨h9, allc ⟨h10, allc ⟨h11, allc ⟨h12, List.forall_mem_nil _⟩⟩⟩⟩⟩⟩⟩⟩⟩⟩⟩⟩
  refine callI ((S, instObj 705 dS) :: (dS, schD w t1 t2 t3 (.ref ch) (.ref al) hr) :: (al, listOf #[.ref x0, .ref x1, .ref x2] n) :: (x0, instObj 615 d0) :: (d0, gorD w u1 u2 u3 u4 u5 (.int 0 u6) (.str (Str.ofString "ready") u7) .none (.ref f0) .none) :: (x1, instObj 615 d1) :: (d1, gorD w a1 a2 a3 a4 a5 (.int 1 a6) (.str (Str.ofString "ready") a7) .none (.ref f1) .none) :: (x2, instObj 615 d2) :: (d2, gorD w b1 b2 b3 b4 b5 (.int 2 b6) (.str (Str.ofString "ready") b7) .none (.ref f2) .none) :: (ch, instObj 461 dc) :: (dc, chcD w c1 c2 (.ref row) (.int 0 tz)) :: (row, listOf #[.int c tc] nr) :: []) B X T F rfl hf hke (fun p hp => N p (hsub p hp)) (fun g' G hx N' => choose_spec G hx (Nat.le_trans hroom (by decide)) (Nat.le_trans hun (by decide)) aps hc0 hc3 N') ?_
  rintro v h' tk g' F' keep keep' toN ⟨xk, u, hx, rfl, Y⟩
  rcases hx with hx | hx | hx
  · rw [hx] at Y ⊢
    exact k0 u h' tk F' (newsChg2 N U (U2 _) hsub keep Y)
  · rw [hx] at Y ⊢
    exact k1 u h' tk F' (newsChg2 N U (U2 _) hsub keep Y)
  · rw [hx] at Y ⊢
    exact k2 u h' tk F' (newsChg2 N U (U2 _) hsub keep Y)
theorem call_ready0 (B : Below A₀ base outer g) (X : (Mine.hd0.heap_1_1 w.params).In g) (T : Top PV LO mean mg mb g) (F : Fr g L s.heap m) (N : News g L s.heap news)
    (h1 : (S, instObj 705 dS) ∈ news) (h2 : (dS, schD w t1 t2 t3 chv (.ref al) hr) ∈ news) (h3 : (al, listOf #[.ref x0, .ref x1, .ref x2] n) ∈ news) (h4 : (x0, instObj 615 d0) ∈ news) (h5 : (d0, gorD w u1 u2 u3 u4 u5 (.int 0 u6) (.str (Str.ofString "blocked") u7) wf (.ref f0) .none) ∈ news) (h6 : (x1, instObj 615 d1) ∈ news) (h7 : (d1, gorD w a1 a2 a3 a4 a5 (.int 1 a6) (.str (Str.ofString "ready") a7) .none (.ref f1) .none) ∈ news) (h8 : (x2, instObj 615 d2) ∈ news) (h9 : (d2, gorD w b1 b2 b3 b4 b5 (.int 2 b6) (.str (Str.ofString "ready") b7) .none (.ref f2) .none) ∈ news) (hf : env.frame = some L) (hke : env.scope.kind = .function) (hroom : dp ≤ 900) (hun : un ≤ 8500) (aps : Aps [S, dS, al, x0, d0, x1, d1, x2, d2]) 
    (k : ∀ l n h' tk, Fr g L h' m → News g L h' ((l, listOf #[.ref x1, .ref x2] n) :: news) → AllAp l news → Q (.ref l) { s with heap := h', toks := tk }) :
    wpAny (model PR w) ⟨none, dp, some (env :: outer), gd, un⟩ (call (.ref 652) [.ref S]) Q E s := by
  have hsub : ∀ p ∈ (S, instObj 705 dS) :: (dS, schD w t1 t2 t3 chv (.ref al) hr) :: (al, listOf #[.ref x0, .ref x1, .ref x2] n) :: (x0, instObj 615 d0) :: (d0, gorD w u1 u2 u3 u4 u5 (.int 0 u6) (.str (Str.ofString "blocked") u7) wf (.ref f0) .none) :: (x1, instObj 615 d1) :: (d1, gorD w a1 a2 a3 a4 a5 (.int 1 a6) (.str (Str.ofString "ready") a7) .none (.ref f1) .none) :: (x2, instObj 615 d2) :: (d2, gorD w b1 b2 b3 b4 b5 (.int 2 b6) (.str (Str.ofString "ready") b7) .none (.ref f2) .none) :: [], p ∈ news := allc ⟨h1, allc ⟨h2, allc ⟨h3, allc ⟨h4, allc ⟨h5, allc ⟨h6, allc ⟨h7, allc ⟨h8, allc ⟨h9, List.forall_mem_nil _⟩⟩⟩⟩⟩⟩⟩⟩⟩
  refine callI ((S, instObj 705 dS) :: (dS, schD w t1 t2 t3 chv (.ref al) hr) :: (al, listOf #[.ref x0, .ref x1, .ref x2] n) :: (x0, instObj 615 d0) :: (d0, gorD w u1 u2 u3 u4 u5 (.int 0 u6) (.str (Str.ofString "blocked") u7) wf (.ref f0) .none) :: (x1, instObj 615 d1) :: (d1, gorD w a1 a2 a3 a4 a5 (.int 1 a6) (.str (Str.ofString "ready") a7) .none (.ref f1) .none) :: (x2, instObj 615 d2) :: (d2, gorD w b1 b2 b3 b4 b5 (.int 2 b6) (.str (Str.ofString "ready") b7) .none (.ref f2) .none) :: []) B X T F rfl hf hke (fun p hp => N p (hsub p hp)) (fun g' G hx N' => ready_0 G hx (Nat.le_trans hroom (by decide)) (Nat.le_trans hun (by decide)) aps N') ?_
  rintro v h' tk g' F' keep keep' toN ⟨l, n, rfl, Y⟩
  have made := toN _ Y.made
  have ap := made_apart N hsub keep' Y
  exact k l n h' tk F' (put1 made (.head _) (newsChg0 N hsub keep Y)) (ap _ (.head _))
theorem call_ready1 (B : Below A₀ base outer g) (X : (Mine.hd0.heap_1_1 w.params).In g) (T : Top PV LO mean mg mb g) (F : Fr g L s.heap m) (N : News g L s.heap news)
    (h1 : (S, instObj 705 dS) ∈ news) (h2 : (dS, schD w t1 t2 t3 chv (.ref al) hr) ∈ news) (h3 : (al, listOf #[.ref x0, .ref x1, .ref x2] n) ∈ news) (h4 : (x0, instObj 615 d0) ∈ news) (h5 : (d0, gorD w u1 u2 u3 u4 u5 (.int 0 u6) (.str (Str.ofString "ready") u7) .none (.ref f0) .none) ∈ news) (h6 : (x1, instObj 615 d1) ∈ news) (h7 : (d1, gorD w a1 a2 a3 a4 a5 (.int 1 a6) (.str (Str.ofString "blocked") a7) wf (.ref f1) .none) ∈ news) (h8 : (x2, instObj 615 d2) ∈ news) (h9 : (d2, gorD w b1 b2 b3 b4 b5 (.int 2 b6) (.str (Str.ofString "ready") b7) .none (.ref f2) .none) ∈ news) (hf : env.frame = some L) (hke : env.scope.kind = .function) (hroom : dp ≤ 900) (hun : un ≤ 8500) (aps : Aps [S, dS, al, x0, d0, x1, d1, x2, d2]) 
    (k : ∀ l n h' tk, Fr g L h' m → News g L h' ((l, listOf #[.ref x0, .ref x2] n) :: news) → AllAp l news → Q (.ref l) { s with heap := h', toks := tk }) :
    wpAny (model PR w) ⟨none, dp, some (env :: outer), gd, un⟩ (call (.ref 652) [.ref S]) Q E s := by
  have hsub : ∀ p ∈ (S, instObj 705 dS) :: (dS, schD w t1 t2 t3 chv (.ref al) hr) :: (al, listOf #[.ref x0, .ref x1, .ref x2] n) :: (x0, instObj 615 d0) :: (d0, gorD w u1 u2 u3 u4 u5 (.int 0 u6) (.str (Str.ofString "ready") u7) .none (.ref f0) .none) :: (x1, instObj 615 d1) :: (d1, gorD w a1 a2 a3 a4 a5 (.int 1 a6) (.str (Str.ofString "blocked") a7) wf (.ref f1) .none) :: (x2, instObj 615 d2) :: (d2, gorD w b1 b2 b3 b4 b5 (.int 2 b6) (.str (Str.ofString "ready") b7) .none (.ref f2) .none) :: [], p ∈ news := allc ⟨h1, allc ⟨h2, allc ⟨h3, allc ⟨h4, allc ⟨h5, allc ⟨h6, allc ⟨h7, allc ⟨h8, allc ⟨h9, List.forall_mem_nil _⟩⟩⟩⟩⟩⟩⟩⟩⟩
  refine callI ((S, instObj 705 dS) :: (dS, schD w t1 t2 t3 chv (.ref al) hr) :: (al, listOf #[.ref x0, .ref x1, .ref x2] n) :: (x0, instObj 615 d0) :: (d0, gorD w u1 u2 u3 u4 u5 (.int 0 u6) (.str (Str.ofString "ready") u7) .none (.ref f0) .none) :: (x1, instObj 615 d1) :: (d1, gorD w a1 a2 a3 a4 a5 (.int 1 a6) (.str (Str.ofString "blocked") a7) wf (.ref f1) .none) :: (x2, instObj 615 d2) :: (d2, gorD w b1 b2 b3 b4 b5 (.int 2 b6) (.str (Str.ofString "ready") b7) .none (.ref f2) .none) :: []) B X T F rfl hf hke (fun p hp => N p (hsub p hp)) (fun g' G hx N' => ready_1 G hx (Nat.le_trans hroom (by decide)) (Nat.le_trans hun (by decide)) aps N') ?_
  rintro v h' tk g' F' keep keep' toN ⟨l, n, rfl, Y⟩
  have made := toN _ Y.made
  have ap := made_apart N hsub keep' Y
  exact k l n h' tk F' (put1 made (.head _) (newsChg0 N hsub keep Y)) (ap _ (.head _))
theorem call_ready2 (B : Below A₀ base outer g) (X : (Mine.hd0.heap_1_1 w.params).In g) (T : Top PV LO mean mg mb g) (F : Fr g L s.heap m) (N : News g L s.heap news)
    (h1 : (S, instObj 705 dS) ∈ news) (h2 : (dS, schD w t1 t2 t3 chv (.ref al) hr) ∈ news) (h3 : (al, listOf #[.ref x0, .ref x1, .ref x2] n) ∈ news) (h4 : (x0, instObj 615 d0) ∈ news) (h5 : (d0, gorD w u1 u2 u3 u4 u5 (.int 0 u6) (.str (Str.ofString "ready") u7) .none (.ref f0) .none) ∈ news) (h6 : (x1, instObj 615 d1) ∈ news) (h7 : (d1, gorD w a1 a2 a3 a4 a5 (.int 1 a6) (.str (Str.ofString "ready") a7) .none (.ref f1) .none) ∈ news) (h8 : (x2, instObj 615 d2) ∈ news) (h9 : (d2, gorD w b1 b2 b3 b4 b5 (.int 2 b6) (.str (Str.ofString "blocked") b7) wf (.ref f2) .none) ∈ news) (hf : env.frame = some L) (hke : env.scope.kind = .function) (hroom : dp ≤ 900) (hun : un ≤ 8500) (aps : Aps [S, dS, al, x0, d0, x1, d1, x2, d2]) 
    (k : ∀ l n h' tk, Fr g L h' m → News g L h' ((l, listOf #[.ref x0, .ref x1] n) :: news) → AllAp l news → Q (.ref l) { s with heap := h', toks := tk }) :
    wpAny (model PR w) ⟨none, dp, some (env :: outer), gd, un⟩ (call (.ref 652) [.ref S]) Q E s := by
  have hsub : ∀ p ∈ (S, instObj 705 dS) :: (dS, schD w t1 t2 t3 chv (.ref al) hr) :: (al, listOf #[.ref x0, .ref x1, .ref x2] n) :: (x0, instObj 615 d0) :: (d0, gorD w u1 u2 u3 u4 u5 (.int 0 u6) (.str (Str.ofString "ready") u7) .none (.ref f0) .none) :: (x1, instObj 615 d1) :: (d1, gorD w a1 a2 a3 a4 a5 (.int 1 a6) (.str (Str.ofString "ready") a7) .none (.ref f1) .none) :: (x2, instObj 615 d2) :: (d2, gorD w b1 b2 b3 b4 b5 (.int 2 b6) (.str (Str.ofString "blocked") b7) wf (.ref f2) .none) :: [], p ∈ news := allc ⟨h1, allc ⟨h2, allc ⟨h3, allc ⟨h4, allc ⟨h5, allc ⟨h6, allc ⟨h7, allc ⟨h8, allc ⟨h9, List.forall_mem_nil _⟩⟩⟩⟩⟩⟩⟩⟩⟩
  refine callI ((S, instObj 705 dS) :: (dS, schD w t1 t2 t3 chv (.ref al) hr) :: (al, listOf #[.ref x0, .ref x1, .ref x2] n) :: (x0, instObj 615 d0) :: (d0, gorD w u1 u2 u3 u4 u5 (.int 0 u6) (.str (Str.ofString "ready") u7) .none (.ref f0) .none) :: (x1, instObj 615 d1) :: (d1, gorD w a1 a2 a3 a4 a5 (.int 1 a6) (.str (Str.ofString "ready") a7) .none (.ref f1) .none) :: (x2, instObj 615 d2) :: (d2, gorD w b1 b2 b3 b4 b5 (.int 2 b6) (.str (Str.ofString "blocked") b7) wf (.ref f2) .none) :: []) B X T F rfl hf hke (fun p hp => N p (hsub p hp)) (fun g' G hx N' => ready_2 G hx (Nat.le_trans hroom (by decide)) (Nat.le_trans hun (by decide)) aps N') ?_
  rintro v h' tk g' F' keep keep' toN ⟨l, n, rfl, Y⟩
  have made := toN _ Y.made
  have ap := made_apart N hsub keep' Y
  exact k l n h' tk F' (put1 made (.head _) (newsChg0 N hsub keep Y)) (ap _ (.head _))
theorem call_gateN (B : Below A₀ base outer g) (X : (Mine.hd0.heap_1_1 w.params).In g) (T : Top PV LO mean mg mb g) (F : Fr g L s.heap m) (N : News g L s.heap news)
    (h1 : (M, instObj 346 dM) ∈ news) (h2 : (dM, metD w m1 m2 m3 m4 m5 m6 hp sc gv wt (.ref gt)) ∈ news) (U : UpdF gt oG news gf) (htl : ∀ p ∈ tl, p ∈ news) (hf : env.frame = some L) (hke : env.scope.kind = .function) (hroom : dp ≤ 900) (hun : un ≤ 8500)
    (aps : Aps [M, dM, gt]) (tup : TupLed tl) (GG : GT w oG xs) (hk : ∀ x ∈ xs, KeyIn w tl x.1 x.2.1) (ka : KeyIn w tl kk a) (lo : (gt == sysModules) = false) (hz : xs.length ≤ 100) (hno : atKey xs kk = none) (hks : ks = Str.ofString "mutex" ∨ ks = Str.ofString "group")
    (k : ∀ ga og oG' h' tk, Fr g L h' m → News g L h' ((ga, og) :: gf oG') → AllAp ga news → og.cls ≠ .type "tuple" → GT w oG' (xs ++ [(kk, a, .ref ga)]) → Q (.ref ga) { s with heap := h', toks := tk }) :
    wpAny (model PR w) ⟨none, dp, some (env :: outer), gd, un⟩ (call (.ref 308) [.ref M, .ref a, .str ks tk]) Q E s := by
  have h3 : (gt, oG) ∈ news := by
    obtain ⟨pre, post, rfl, _, _, _⟩ := U.split
    exact List.mem_append_right _ (.head _)
  have hsub : ∀ p ∈ (M, instObj 346 dM) :: (dM, metD w m1 m2 m3 m4 m5 m6 hp sc gv wt (.ref gt)) :: (gt, oG) :: tl, p ∈ news := allc ⟨h1, allc ⟨h2, allc ⟨h3, htl⟩⟩⟩
  refine callI ((M, instObj 346 dM) :: (dM, metD w m1 m2 m3 m4 m5 m6 hp sc gv wt (.ref gt)) :: (gt, oG) :: tl) B X T F rfl hf hke (fun p hp => N p (hsub p hp)) (fun g' G hx N' => gate_new G hx (Nat.le_trans hroom (by decide)) (Nat.le_trans hun (by decide)) aps tup GG hk ka lo hz hno hks N') ?_
  rintro v h' tk g' F' keep keep' toN ⟨ga, og, oG', rfl, NG, apM, oc, GG'⟩
  have N2 := toN _ NG
  have hmu : ∀ p ∈ (M, instObj 346 dM) :: (dM, metD w m1 m2 m3 m4 m5 m6 hp sc gv wt (.ref gt)) :: (gt, oG) :: tl, p.1 ≠ gt → h'.get? p.1 = some p.2 := by
    intro p hq hne
    rcases List.mem_cons.mp hq with rfl | hq
    · exact (N2 _ (.tail _ (.head _))).1
    rcases List.mem_cons.mp hq with rfl | hq
    · exact (N2 _ (.tail _ (.tail _ (.head _)))).1
    rcases List.mem_cons.mp hq with rfl | hq
    · exact absurd rfl hne
    · exact (N2 p (.tail _ (.tail _ (.tail _ (.tail _ hq))))).1
  have stay : ∀ p ∈ news, p.1 ≠ gt → h'.get? p.1 = some p.2 := by
    intro p hpn hne
    by_cases q : p.1 ∈ ((M, instObj 346 dM) :: (dM, metD w m1 m2 m3 m4 m5 m6 hp sc gv wt (.ref gt)) :: (gt, oG) :: tl).map (·.1)
    · obtain ⟨r, hr, e⟩ := List.mem_map.mp q
      have z2 := (N r (hsub r hr)).1
      rw [e, (N p hpn).1] at z2
      have z3 := hmu r hr (by rw [e]; exact hne)
      rw [e, ← z2] at z3
      exact z3
    · exact keep _ _ (N p hpn).1 q
  have nga : ∀ p ∈ news, p.1 ≠ ga := by
    intro p hpn e
    have fr := (NG _ (.head _)).2
    by_cases q : p.1 ∈ ((M, instObj 346 dM) :: (dM, metD w m1 m2 m3 m4 m5 m6 hp sc gv wt (.ref gt)) :: (gt, oG) :: tl).map (·.1)
    · obtain ⟨r, hr, e2⟩ := List.mem_map.mp q
      have e3 := e2.trans e
      rcases List.mem_cons.mp hr with rfl | hr
      · exact apM _ (.head _) e3
      rcases List.mem_cons.mp hr with rfl | hr
      · exact apM _ (.tail _ (.head _)) e3
      rcases List.mem_cons.mp hr with rfl | hr
      · exact apM _ (.tail _ (.tail _ (.head _))) e3
      · exact apM _ (.tail _ (.tail _ (.tail _ hr))) e3
    · have h1 := keep' _ _ (N p hpn).1 q
      rw [e, fr] at h1
      cases h1
  obtain ⟨pre, post, rfl, hgf, n1, n2⟩ := U.split
  refine k ga og oG' h' tk F' (allc ⟨N2 _ (.head _), ?_⟩) nga oc GG'
  rw [hgf]
  intro p hp
  rcases List.mem_append.mp hp with q | q
  · have hm := List.mem_append_left ((gt, oG) :: post) q
    exact ⟨stay p hm (n1 p q), (N p hm).2⟩
  · rcases List.mem_cons.mp q with rfl | q
    · exact N2 _ (.tail _ (.tail _ (.tail _ (.head _))))
    · have hm := List.mem_append_right pre (List.mem_cons_of_mem (gt, oG) q)
      exact ⟨stay p hm (n2 p q), (N p hm).2⟩
theorem call_gateO (B : Below A₀ base outer g) (X : (Mine.hd0.heap_1_1 w.params).In g) (T : Top PV LO mean mg mb g) (F : Fr g L s.heap m) (N : News g L s.heap news)
    (h1 : (M, instObj 346 dM) ∈ news) (h2 : (dM, metD w m1 m2 m3 m4 m5 m6 hp sc gv wt (.ref gt)) ∈ news) (h3 : (gt, oG) ∈ news) (htl : ∀ p ∈ tl, p ∈ news) (hf : env.frame = some L) (hke : env.scope.kind = .function) (hroom : dp ≤ 900) (hun : un ≤ 8500)
    (GG : GT w oG xs) (hk : ∀ x ∈ xs, KeyIn w tl x.1 x.2.1) (ka : KeyIn w tl kk a) (lo : (gt == sysModules) = false) (hat : atKey xs kk = some (ka', v))
    (k : ∀ h' tk, Fr g L h' m → News g L h' news → Q v { s with heap := h', toks := tk }) :
    wpAny (model PR w) ⟨none, dp, some (env :: outer), gd, un⟩ (call (.ref 308) [.ref M, .ref a, .str ks tk]) Q E s :=
  call_ready (fun _ G hx N' => gate_old G hx (Nat.le_trans hroom (by decide)) (Nat.le_trans hun (by decide)) GG hk ka lo hat N') B X T F N (allc ⟨h1, allc ⟨h2, allc ⟨h3, htl⟩⟩⟩) hf hke k
end

end
section
example : True := by
  w_top off
  (k_with "k_room!" => first | (refine' rm_k ?h_z ?e_z; (case h_z => with_reducible assumption); (case e_z => rfl)) | ((try simp only [depth_under_make, depth_under_kw, depth_in1, depth_deeper, depth_caller]); show _ < 1000; (try dsimp only); omega))
  (k_with "ke_room!" => first | (refine' rm_u ?h_z ?e_z; (case h_z => with_reducible assumption); (case e_z => rfl)) | ((simp only [units_under_make, units_in1, units_deeper, Around.mark_units, units_caller]); show _ < 9900; (try dsimp only); omega))
  (k_with "MY room" => first | (refine' rm_le ?h_z ?e_z; (case h_z => with_reducible assumption); (case e_z => rfl)) | ((try simp only [depth_under_make, depth_under_kw, depth_in1, depth_deeper, depth_caller, units_under_make, units_in1, units_deeper, Around.mark_units, units_caller]); (try dsimp only); omega))
  (k_with "call ref!" => (k_here; (with_reducible show wpAny _ _ (call (Value.ref 723) _) _ _ _); k_dflt (refine' call_scoop ?k1_z ?k2_z ?k3_z ?k4_z ?k5_z ?U_z ?hf_z ?hk_z ?hr_z ?hu_z ?p1_z ?p4_z ?p5_z ?_; (case hf_z => exact rfl); (case hk_z => exact rfl); (case k1_z => k_asm); (case k2_z => k_asm); (case k3_z => k_asm); (case k4_z => k_asm); (case k5_z => k_asm); (case U_z => k_updF); (case hr_z => k_extra "MY room"); (case hu_z => k_extra "MY room"); (case p1_z => k_asm); (case p4_z => omega); (case p5_z => omega); k_whole); intro h' tk' r' tr' a' ta' b' tb' F' N' hr0' hr1' ok'; (try dsimp only at N'); (try k_sweep)))
  (k_with "newTuple!" => (k_here; k_dflt (refine' newTupS ?F_z ?N_z ?z_z ?_; (case F_z => k_asm); (case N_z => k_asm); (case z_z => rfl); k_whole); intro Dq' hq' lq' Fq' Nq'; (try k_sweep)))
  (k_with "newList!" => (k_here; k_dflt (refine' newListS ?F_z ?N_z ?z_z ?_; (case F_z => k_asm); (case N_z => k_asm); (case z_z => rfl); k_whole); intro Dq' hq' lq' Fq' Nq'; (try k_sweep)))
  (k_with "MYM" => with_reducible (first | exact mm0 | exact mm1 | exact mm2 | exact mm3 | exact mm4 | exact mm5 | exact mm6 | exact mm7 | exact mm8 | exact mm9 | exact mm10 | exact mm11 | exact mm12 | exact mm13 | exact mm14 | exact mm15 | exact mm16 | exact mm17 | exact mm18 | exact mm19 | exact mm20 | exact mm21 | exact mm22 | exact mm23 | exact mm24 | exact mm25 | exact mm26 | exact mm27 | exact mm28 | exact mm29 | exact mm30 | exact mm31 | exact mm32 | exact mm33 | exact mm34 | exact mm35 | exact mm36 | exact mm37 | exact mm38 | exact mm39 | exact mm40 | exact mm41 | exact mm42 | exact mm43 | exact mm44 | exact mm45 | exact mm46 | exact mm47))
  (k_with "MYB" => (first | (with_reducible refine bf0 ?_) | (with_reducible refine bg0 ?_) | (with_reducible refine bf1 ?_) | (with_reducible refine bg1 ?_) | (with_reducible refine bf2 ?_) | (with_reducible refine bg2 ?_) | (with_reducible refine bf3 ?_) | (with_reducible refine bg3 ?_) | (with_reducible refine bf4 ?_) | (with_reducible refine bg4 ?_) | (with_reducible refine bf5 ?_) | (with_reducible refine bg5 ?_) | (with_reducible refine bf6 ?_) | (with_reducible refine bg6 ?_) | (with_reducible refine bf7 ?_) | (with_reducible refine bg7 ?_) | (with_reducible refine bf8 ?_) | (with_reducible refine bg8 ?_) | (with_reducible refine bf9 ?_) | (with_reducible refine bg9 ?_) | (with_reducible refine bf10 ?_) | (with_reducible refine bg10 ?_) | (with_reducible refine bf11 ?_) | (with_reducible refine bg11 ?_)); k_extra "MYM")
  (k_with "k_mem!" => k_extra "MYM")
  (k_with "k_all!" => exact ltS_all (by with_reducible assumption))
  (k_with "k_ne!" => (refine neN ?_; (try dsimp only); first | (refine' allLt_ne ?L_z ?M_z; (case L_z => with_reducible assumption); (case M_z => k_extra "MYM")) | (refine' lt_neS ?L_z ?M_z; (case L_z => with_reducible assumption); (case M_z => k_extra "MYM")) | (refine' aps_ne ?A_z ?B_z; (case A_z => with_reducible assumption); (case B_z => k_extra "MYB")) | (refine' lt_ne1 ?L_z ?M_z; (case L_z => with_reducible assumption); (case M_z => k_extra "MYM")) | (refine' lt_neS1 ?L_z ?M_z; (case L_z => with_reducible assumption); (case M_z => k_extra "MYM")) | exact ne_lt (by with_reducible assumption) | exact (ne_lt (by with_reducible assumption)).symm | (refine' allLt_ne2 ?e_z ?L_z ?M_z; (case e_z => with_reducible assumption); (case L_z => with_reducible assumption); (case M_z => k_extra "MYM")) | (refine' (allLt_ne2 ?e_z ?L_z ?M_z).symm; (case e_z => with_reducible assumption); (case L_z => with_reducible assumption); (case M_z => k_extra "MYM")) | exact AllAp.get (by with_reducible assumption) (by k_mem) | exact (AllAp.get (by with_reducible assumption) (by k_mem)).symm | fail "MY ne"))
  (k_with "MY step" => first | (k_unfold; (try dsimp only)) | (k_end; wrow_close) | walk1 | (dsimp only; walk1) | (leave1; walk_say "STEP leave1"; try dsimp only) | fail "no step")
  (k_with "MY sub" => exact fun _ h => List.mem_append_left _ h)
  (k_with "k_all!" => first | exact ltS_all (by with_reducible assumption) | exact allAp_all (by with_reducible assumption))
  (k_with "k_in!" => first | with_reducible assumption | exact Frag.In.keeps (by with_reducible assumption) (Fr.keep (by with_reducible assumption)))
  (k_with "MY lt" => with_reducible assumption)
  (k_with "k_ne!" => (refine neN ?_; (try dsimp only); first | exact allLt_ne (by with_reducible assumption) (by k_mem) | exact (allLt_ne (by with_reducible assumption) (by k_mem)).symm | exact ne_lt (by with_reducible assumption) | exact (ne_lt (by with_reducible assumption)).symm | exact allLt_ne2 (by with_reducible assumption) (by with_reducible assumption) (by k_mem) | exact (allLt_ne2 (by with_reducible assumption) (by with_reducible assumption) (by k_mem)).symm | exact Aps.get (by with_reducible assumption) (by k_memK) | exact (Aps.get (by with_reducible assumption) (by k_memK)).symm | exact AllAp.get (by with_reducible assumption) (by k_mem) | exact (AllAp.get (by with_reducible assumption) (by k_mem)).symm | exact off3_i (by with_reducible assumption) (by k_mem) | exact off3_c (by with_reducible assumption) (by k_mem) | exact off3_d (by with_reducible assumption) (by k_mem) | exact (off3_i (by with_reducible assumption) (by k_mem)).symm | exact (off3_c (by with_reducible assumption) (by k_mem)).symm | exact (off3_d (by with_reducible assumption) (by k_mem)).symm | exact off1_d (by with_reducible assumption) (by k_mem) | exact (off1_d (by with_reducible assumption) (by k_mem)).symm | exact Ap3.ic (by with_reducible assumption) | exact Ap3.id (by with_reducible assumption) | exact Ap3.cd (by with_reducible assumption) | exact (Ap3.ic (by with_reducible assumption)).symm | exact (Ap3.id (by with_reducible assumption)).symm | exact (Ap3.cd (by with_reducible assumption)).symm | omega))
  (k_with "CompRest!" => (with_unfolding_all first | (refine LCg.CompRest.succ ?_; intro v' I' oI' C' oC' D' m' h' tk' E' hv' hC' hx' F' N' off' ne'; (first | lcg_open hv' | (obtain ⟨t9', hv9'⟩ := hv'; subst hv9')); (replace ne' := Ap3.of ne'); (replace off' := Off3S.mk off')) | refine LCg.CompRest.zero ?_))
  (k_with "CompRestT!" => (with_unfolding_all first | (refine LCt.CompRestT.succ ?_; intro v' I' oI' C' oC' D' m' h' tk' E' hv' hC' hx' F' N' off' ne'; (first | lcg_open hv' | (obtain ⟨t9', hv9'⟩ := hv'; subst hv9')); (replace ne' := Ap3.of ne'); (replace off' := Off3S.mk off')) | refine LCt.CompRestT.zero ?_))
  (k_with "FinE!" => ((unfold LCg.FinE); intro D' h' tk' F' N' o1'; (replace o1' := Off1S.mk o1'); (try simp only [List.nil_append, List.cons_append] at N'); (try dsimp only)))
  (k_with "FinA!" => ((unfold LCg.FinA); intro D' h' tk' F' N' o1'; (replace o1' := Off1S.mk o1'); (try simp only [List.nil_append, List.cons_append] at N'); (try dsimp only)))
  trivial
theorem keys_of {w : World} {g h : Heap} {L p pi o oi : Addr} {news : List (Addr × Obj)} {t1 t2 t3 : Tok} {c : Int} {n1 n2 n3 n4 : Nat} (_ : News g L h news) (_ : (p, tupOf #[.int 3 t1, .ref pi] n1) ∈ news) (_ : (pi, tupOf #[.int c t2] n2) ∈ news) (_ : (o, tupOf #[.int 4 t3, .ref oi] n3) ∈ news) (_ : (oi, tupOf #[] n4) ∈ news) :
    KeyIn w [(p, tupOf #[.int 3 t1, .ref pi] n1), (pi, tupOf #[.int c t2] n2), (o, tupOf #[.int 4 t3, .ref oi] n3), (oi, tupOf #[] n4)] (3, [c]) p ∧
    KeyIn w [(p, tupOf #[.int 3 t1, .ref pi] n1), (pi, tupOf #[.int c t2] n2), (o, tupOf #[.int 4 t3, .ref oi] n3), (oi, tupOf #[] n4)] (4, []) o ∧
    TupLed [(p, tupOf #[.int 3 t1, .ref pi] n1), (pi, tupOf #[.int c t2] n2), (o, tupOf #[.int 4 t3, .ref oi] n3), (oi, tupOf #[] n4)] := by
  refine ⟨⟨t1, pi, n1, #[.int c t2], n2, .head _, .tail _ (.head _), .cons (int_is c t2) .nil⟩, ⟨t3, oi, n3, #[], n4, .tail _ (.tail _ (.head _)), .tail _ (.tail _ (.tail _ (.head _))), .nil⟩, ?_⟩
  intro q hq
  simp only [List.mem_cons, List.not_mem_nil, or_false] at hq
  rcases hq with rfl | rfl | rfl | rfl <;> rfl
theorem sel_nil {α : Type} {l : List α} : ∀ p ∈ ([] : List α), p ∈ l := fun _ h => nomatch h
theorem sel_cons {α : Type} {a : α} {l' l : List α} (h : a ∈ l) (t : ∀ p ∈ l', p ∈ l) : ∀ p ∈ a :: l', p ∈ l := allc ⟨h, t⟩
theorem News_sub9 {g h : Heap} {L : Addr} {a b : List (Addr × Obj)} (N : News g L h b) (hs : ∀ p ∈ a, p ∈ b) : News g L h a := fun p hp => N p (hs p hp)
theorem Ap3.ofAps {a b c : Addr} (h : Aps [a, b, c]) : Ap3 a b c := ⟨Aps.get h (.head (.head _)), Aps.get h (.head (.tail _ (.head _))), Aps.get h (.tail (.head (.head _)))⟩
theorem comp_same {h₀ h' : Heap} {L I C D : Addr} {m : Str → Option Value} {s₁ : Shared} {oI oC oD : Obj} {S : List (Addr × Obj) → Prop} {rest : Value → List (Addr × Obj) → Prop} {y : Value} {tk : Nat} {news : List (Addr × Obj)}
    (F : Fr h₀ L h' m) (N : News h₀ L h' ((I, oI) :: (C, oC) :: (D, oD) :: news)) (off : Off3S I C D news) (hS : S news) (r : rest y news) : LCg.CompEnd h₀ L m s₁ I oI C oC D oD S rest y { s₁ with heap := h', toks := tk } :=
  LCg.CompEnd.intro F N news (fun _ h => h) off.h hS r
theorem GT.ofEmpty {w : World} {K' : Type} [DecidableEq K'] {knd' : KeyKind PR w K'} {o : Obj} (hd : o.IsDictOf knd' []) : GT w o [] := by
  obtain ⟨es, ep, hc, hdat, _, hp, _⟩ := hd
  have he : es.toList = [] := List.length_eq_zero_iff.mp hp.length
  exact ⟨hc, ⟨es, ep, hdat, he⟩, List.nodup_nil⟩
theorem mem_two {v a b : Value} (h : v ∈ [a, b]) : v = a ∨ v = b := by
  rcases List.mem_cons.mp h with h | h
  · exact .inl h
  · exact .inr (List.mem_singleton.mp h)
theorem mem_kind {v : Value} {a b : Str} {t u : Tok} (h : v ∈ [Value.str a t, Value.str b u]) : ∃ (ks : Str) (tk : Tok), v = Value.str ks tk ∧ (ks = a ∨ ks = b) := by
  rcases mem_two h with rfl | rfl
  · exact ⟨a, t, rfl, .inl rfl⟩
  · exact ⟨b, u, rfl, .inr rfl⟩
example : True := by
  (k_with "MY aps" => (repeat' (first | exact True.intro | exact List.forall_mem_nil _ | refine And.intro ?_ ?_ | refine allc ?_ | exact ⟨by k_ne⟩)))
  (k_with "MY step" => first | k_unfold | ((with_reducible show wpAny _ _ _ _ _ _); walk1) | (k_end; wrow_close) | walk1 | (dsimp only; walk1) | (leave1; walk_say "STEP leave1"; try dsimp only) | fail "no step")
  (k_with "compareOp IsNot!" => (k_here; (with_reducible show wpAny _ _ (compareOp CmpOp.IsNot (Value.ref _) (Value.ref _)) _ _ _); (rename News _ _ _ _ => lN'); k_dflt (first | refine wpAny_isNot_ref_self ?_ | (refine' kto_isnot (News.get lN' (o := instObj 615 _) ?x_z) (News.get lN' (o := instObj 615 _) ?y_z) ?n_z cls_rf ?_; (case x_z => k_mem); (case y_z => k_mem); (case n_z => k_ne)))))
  (k_with "MY sub4" => first | exact List.forall_mem_nil _ | (refine allc ⟨by k_mem, ?_⟩; k_extra "MY sub4"))
  (k_with "exec Assign cons ListComp!" => (k_here; lcf_look; lcg_calm; k_dflt (refine LCg.Assign_ListComp_U (F₀ := by k_asm) (by rfl) (by with_unfolding_all rfl) (by with_unfolding_all rfl) (by decide) (by rfl) (by decide) (by rfl) (by rfl) (by rfl) ?_); k_dflt lcg_toSrc))
  (k_with "CompEnd!" => (refine' comp_same ?F_z ?N_z ?o_z ?S_z ?_; (case F_z => k_asm); (case N_z => first | with_reducible assumption | assumption); (case o_z => with_reducible assumption); (case S_z => lcg_src)))
  (k_with "CompSrc!" => (k_here; k_dflt (first | (refine LCg.CompSrc.range (by rfl) (by k_asm) (by k_asm) (by assumption) (by first | decide | rfl) (by first | rfl | decide) (by first | size_fits | exact Nat.le_of_ble_eq_true rfl) ?_; intro g'; lcg_lit) | (refine LCg.CompSrc.ledger (by rfl) (by k_asm) (by k_asm) (by k_mem) (by first | exact Nat.le_of_ble_eq_true rfl | size_fits) ?_; intro g'; lcg_lit))))
  (k_with "eval ListComp!" => (k_here; lcg_look; k_dflt (refine LCg.ListComp_U (F₀ := by k_asm) (by rfl) (by decide) (by rfl) (by decide) (by rfl) ?_)))
  (k_with "eval ListComp!" => (k_here; lct_look; k_dflt (refine LCt.ListComp_T (F₀ := by k_asm) (by with_unfolding_all rfl) (by decide) (by rfl) (by decide) (by rfl) ?_)))
  (k_with "call ref!" => (k_here; (with_reducible show wpAny _ _ (call (Value.ref 730) _) _ _ _); k_dflt (refine' call_one ?k1_z ?k2_z ?k3_z ?k4_z ?k5_z ?U_z ?hl_z ?hne_z ?hf_z ?hk_z ?hr_z ?hu_z ?p1_z ?p4_z ?p5_z ?_; (case hf_z => exact rfl); (case hk_z => exact rfl); (case k1_z => k_asm); (case k2_z => k_asm); (case k3_z => k_asm); (case k4_z => k_asm); (case k5_z => k_asm); (case hl_z => k_mem); (case hne_z => k_ne); (case U_z => k_updF); (case hr_z => k_extra "MY room"); (case hu_z => k_extra "MY room"); (case p1_z => k_asm); (case p4_z => exact Nat.le_of_ble_eq_true rfl); (case p5_z => exact Nat.le_of_ble_eq_true rfl); k_whole); intro v' h' tk' a' ta' b' tb' hv' F' N' ok'; (try dsimp only at N'); (try k_sweep); (obtain ⟨ks', kt', e', hks'⟩ := mem_kind hv'); subst e'; clear hv'))
  (k_with "call ref!" => (k_here; (with_reducible show wpAny _ _ (call (Value.ref 640) _) _ _ _); k_dflt ((first | (refine' call_spawnA (vs := []) (kn := 0) ?B_z ?X_z ?T_z ?F_z ?N_z ?h1_z ?h2_z ?h3_z ?hf_z ?hk_z ?hr_z ?hu_z ?aps_z ?ln_z ?hkk_z ?U_z ?U2_z ?_; (case hf_z => exact rfl); (case hk_z => exact rfl); (case B_z => k_asm); (case X_z => k_asm); (case T_z => k_asm); (case F_z => k_asm); (case N_z => k_asm); (case h1_z => k_mem); (case h2_z => k_mem); (case h3_z => k_mem); (case aps_z => k_extra "MY aps"); (case ln_z => exact Nat.le_of_ble_eq_true rfl); (case hkk_z => exact rfl); (case U_z => k_updF); (case U2_z => (intro x9; (try dsimp only); k_updF)); (case hr_z => k_extra "MY room"); (case hu_z => k_extra "MY room"); k_whole) | (refine' call_spawnB (vs := [Value.ref _]) (kn := 1) ?B_z ?X_z ?T_z ?F_z ?N_z ?h1_z ?h2_z ?h3_z ?hf_z ?hk_z ?hr_z ?hu_z ?aps_z ?ln_z ?hkk_z ?U_z ?_; (case hf_z => exact rfl); (case hk_z => exact rfl); (case B_z => k_asm); (case X_z => k_asm); (case T_z => k_asm); (case F_z => k_asm); (case N_z => k_asm); (case h1_z => k_mem); (case h2_z => k_mem); (case h3_z => k_mem); (case aps_z => k_extra "MY aps"); (case ln_z => exact Nat.le_of_ble_eq_true rfl); (case hkk_z => exact rfl); (case U_z => k_updF); (case hr_z => k_extra "MY room"); (case hu_z => k_extra "MY room"); k_whole) | (refine' call_spawnB (vs := [Value.ref _, Value.ref _]) (kn := 2) ?B_z ?X_z ?T_z ?F_z ?N_z ?h1_z ?h2_z ?h3_z ?hf_z ?hk_z ?hr_z ?hu_z ?aps_z ?ln_z ?hkk_z ?U_z ?_; (case hf_z => exact rfl); (case hk_z => exact rfl); (case B_z => k_asm); (case X_z => k_asm); (case T_z => k_asm); (case F_z => k_asm); (case N_z => k_asm); (case h1_z => k_mem); (case h2_z => k_mem); (case h3_z => k_mem); (case aps_z => k_extra "MY aps"); (case ln_z => exact Nat.le_of_ble_eq_true rfl); (case hkk_z => exact rfl); (case U_z => k_updF); (case hr_z => k_extra "MY room"); (case hu_z => k_extra "MY room"); k_whole))); intro x' d' fr' u1' u2' u3' u4' u5' u6' u7' h' tk' F' N' ax' ad' af' ne'; replace ne' := Ap3.ofAps ne'; (try dsimp only [List.nil_append, List.cons_append] at N'); (try k_sweep)))
  (k_with "call ref!" => (k_here; (with_reducible show wpAny _ _ (call (Value.ref 329) _) _ _ _); k_dflt (first | ((refine' call_pdone ?B_z ?X_z ?T_z ?F_z ?N_z ?h1_z ?h2_z ?h3_z ?h4_z ?h5_z ?h6_z ?h7_z ?hf_z ?hk_z ?hr_z ?hu_z   ?_; (case hf_z => exact rfl); (case hk_z => exact rfl); (case B_z => k_asm); (case X_z => k_asm); (case T_z => k_asm); (case F_z => k_asm); (case N_z => k_asm); (case h1_z => k_mem); (case h2_z => k_mem); (case h3_z => k_mem); (case h4_z => k_mem); (case h5_z => k_mem); (case h6_z => k_mem); (case h7_z => k_mem); (case hr_z => k_extra "MY room"); (case hu_z => k_extra "MY room"); k_whole); intro a' u' n' h' tk' F' N' ap'; (try dsimp only at N'); (try k_sweep)) | ((refine' call_pblock ?B_z ?X_z ?T_z ?F_z ?N_z ?h1_z ?h2_z ?h3_z ?h4_z ?h5_z ?h6_z ?h7_z ?hf_z ?hk_z ?hr_z ?hu_z ?aps_z ?U_z ?_; (case hf_z => exact rfl); (case hk_z => exact rfl); (case B_z => k_asm); (case X_z => k_asm); (case T_z => k_asm); (case F_z => k_asm); (case N_z => k_asm); (case h1_z => k_mem); (case h2_z => k_mem); (case h3_z => k_mem); (case h4_z => k_mem); (case h5_z => k_mem); (case h6_z => k_mem); (case h7_z => k_mem); (case aps_z => k_extra "MY aps"); (case U_z => k_updF); (case hr_z => k_extra "MY room"); (case hu_z => k_extra "MY room"); k_whole); intro a' u' n' u8' h' tk' F' N' ap'; (try dsimp only at N'); (try k_sweep)))))
  (k_with "call ref!" => (k_here; (with_reducible show wpAny _ _ (call (Value.ref 652) _) _ _ _); k_dflt (first | ((refine' call_readyG ?o3_z ?B_z ?X_z ?T_z ?F_z ?N_z ?h1_z ?h2_z ?h3_z ?h4_z ?h5_z ?h6_z ?h7_z ?h8_z ?h9_z ?hf_z ?hk_z ?hr_z ?hu_z ?aps_z  ?_; (case o3_z => with_reducible assumption); (case hf_z => exact rfl); (case hk_z => exact rfl); (case B_z => k_asm); (case X_z => k_asm); (case T_z => k_asm); (case F_z => k_asm); (case N_z => k_asm); (case h1_z => k_mem); (case h2_z => k_mem); (case h3_z => k_mem); (case h4_z => k_mem); (case h5_z => k_mem); (case h6_z => k_mem); (case h7_z => k_mem); (case h8_z => k_mem); (case h9_z => k_mem); (case aps_z => k_extra "MY aps"); (case hr_z => k_extra "MY room"); (case hu_z => k_extra "MY room"); k_whole); intro l' n' h' tk' F' N' ap'; (try dsimp only at N'); (try k_sweep)))))
  (k_with "call ref!" => (k_here; (with_reducible show wpAny _ _ (call (Value.ref 336) _) _ _ _); k_dflt (first | ((refine' call_letG ?o3_z ?B_z ?X_z ?T_z ?F_z ?N_z ?h1_z ?h2_z ?h3_z ?h4_z ?h5_z ?h6_z ?h7_z ?h8_z ?hf_z ?hk_z ?hr_z ?hu_z ?aps_z ?U_z ?_; (case o3_z => with_reducible assumption); (case hf_z => exact rfl); (case hk_z => exact rfl); (case B_z => k_asm); (case X_z => k_asm); (case T_z => k_asm); (case F_z => k_asm); (case N_z => k_asm); (case h1_z => k_mem); (case h2_z => k_mem); (case h3_z => k_mem); (case h4_z => k_mem); (case h5_z => k_mem); (case h6_z => k_mem); (case h7_z => k_mem); (case h8_z => k_mem); (case aps_z => k_extra "MY aps"); (case U_z => k_updF); (case hr_z => k_extra "MY room"); (case hu_z => k_extra "MY room"); k_whole); intro a' u' n' u8' h' tk' F' N' ap'; (try dsimp only at N'); (try k_sweep)))))
  trivial
theorem bf12 {a b x0 x1 x2 x3 x4 x5 x6 x7 x8 x9 x10 x11 : Addr} {r : List Addr} (h : b ∈ r) : Bef2 a b (x0 :: x1 :: x2 :: x3 :: x4 :: x5 :: x6 :: x7 :: x8 :: x9 :: x10 :: x11 :: a :: r) := bft (bf11 h)
theorem bg12 {a b x0 x1 x2 x3 x4 x5 x6 x7 x8 x9 x10 x11 : Addr} {r : List Addr} (h : a ∈ r) : Bef2 a b (x0 :: x1 :: x2 :: x3 :: x4 :: x5 :: x6 :: x7 :: x8 :: x9 :: x10 :: x11 :: b :: r) := bft (bg11 h)
theorem bf13 {a b x0 x1 x2 x3 x4 x5 x6 x7 x8 x9 x10 x11 x12 : Addr} {r : List Addr} (h : b ∈ r) : Bef2 a b (x0 :: x1 :: x2 :: x3 :: x4 :: x5 :: x6 :: x7 :: x8 :: x9 :: x10 :: x11 :: x12 :: a :: r) := bft (bf12 h)
theorem bg13 {a b x0 x1 x2 x3 x4 x5 x6 x7 x8 x9 x10 x11 x12 : Addr} {r : List Addr} (h : a ∈ r) : Bef2 a b (x0 :: x1 :: x2 :: x3 :: x4 :: x5 :: x6 :: x7 :: x8 :: x9 :: x10 :: x11 :: x12 :: b :: r) := bft (bg12 h)
theorem bf14 {a b x0 x1 x2 x3 x4 x5 x6 x7 x8 x9 x10 x11 x12 x13 : Addr} {r : List Addr} (h : b ∈ r) : Bef2 a b (x0 :: x1 :: x2 :: x3 :: x4 :: x5 :: x6 :: x7 :: x8 :: x9 :: x10 :: x11 :: x12 :: x13 :: a :: r) := bft (bf13 h)
theorem bg14 {a b x0 x1 x2 x3 x4 x5 x6 x7 x8 x9 x10 x11 x12 x13 : Addr} {r : List Addr} (h : a ∈ r) : Bef2 a b (x0 :: x1 :: x2 :: x3 :: x4 :: x5 :: x6 :: x7 :: x8 :: x9 :: x10 :: x11 :: x12 :: x13 :: b :: r) := bft (bg13 h)
theorem bf15 {a b x0 x1 x2 x3 x4 x5 x6 x7 x8 x9 x10 x11 x12 x13 x14 : Addr} {r : List Addr} (h : b ∈ r) : Bef2 a b (x0 :: x1 :: x2 :: x3 :: x4 :: x5 :: x6 :: x7 :: x8 :: x9 :: x10 :: x11 :: x12 :: x13 :: x14 :: a :: r) := bft (bf14 h)
theorem bg15 {a b x0 x1 x2 x3 x4 x5 x6 x7 x8 x9 x10 x11 x12 x13 x14 : Addr} {r : List Addr} (h : a ∈ r) : Bef2 a b (x0 :: x1 :: x2 :: x3 :: x4 :: x5 :: x6 :: x7 :: x8 :: x9 :: x10 :: x11 :: x12 :: x13 :: x14 :: b :: r) := bft (bg14 h)
theorem bf16 {a b x0 x1 x2 x3 x4 x5 x6 x7 x8 x9 x10 x11 x12 x13 x14 x15 : Addr} {r : List Addr} (h : b ∈ r) : Bef2 a b (x0 :: x1 :: x2 :: x3 :: x4 :: x5 :: x6 :: x7 :: x8 :: x9 :: x10 :: x11 :: x12 :: x13 :: x14 :: x15 :: a :: r) := bft (bf15 h)
theorem bg16 {a b x0 x1 x2 x3 x4 x5 x6 x7 x8 x9 x10 x11 x12 x13 x14 x15 : Addr} {r : List Addr} (h : a ∈ r) : Bef2 a b (x0 :: x1 :: x2 :: x3 :: x4 :: x5 :: x6 :: x7 :: x8 :: x9 :: x10 :: x11 :: x12 :: x13 :: x14 :: x15 :: b :: r) := bft (bg15 h)
theorem bf17 {a b x0 x1 x2 x3 x4 x5 x6 x7 x8 x9 x10 x11 x12 x13 x14 x15 x16 : Addr} {r : List Addr} (h : b ∈ r) : Bef2 a b (x0 :: x1 :: x2 :: x3 :: x4 :: x5 :: x6 :: x7 :: x8 :: x9 :: x10 :: x11 :: x12 :: x13 :: x14 :: x15 :: x16 :: a :: r) := bft (bf16 h)
theorem bg17 {a b x0 x1 x2 x3 x4 x5 x6 x7 x8 x9 x10 x11 x12 x13 x14 x15 x16 : Addr} {r : List Addr} (h : a ∈ r) : Bef2 a b (x0 :: x1 :: x2 :: x3 :: x4 :: x5 :: x6 :: x7 :: x8 :: x9 :: x10 :: x11 :: x12 :: x13 :: x14 :: x15 :: x16 :: b :: r) := bft (bg16 h)
theorem bf18 {a b x0 x1 x2 x3 x4 x5 x6 x7 x8 x9 x10 x11 x12 x13 x14 x15 x16 x17 : Addr} {r : List Addr} (h : b ∈ r) : Bef2 a b (x0 :: x1 :: x2 :: x3 :: x4 :: x5 :: x6 :: x7 :: x8 :: x9 :: x10 :: x11 :: x12 :: x13 :: x14 :: x15 :: x16 :: x17 :: a :: r) := bft (bf17 h)
theorem bg18 {a b x0 x1 x2 x3 x4 x5 x6 x7 x8 x9 x10 x11 x12 x13 x14 x15 x16 x17 : Addr} {r : List Addr} (h : a ∈ r) : Bef2 a b (x0 :: x1 :: x2 :: x3 :: x4 :: x5 :: x6 :: x7 :: x8 :: x9 :: x10 :: x11 :: x12 :: x13 :: x14 :: x15 :: x16 :: x17 :: b :: r) := bft (bg17 h)
example : True := by
  (k_with "MYB" => (first | (with_reducible refine bf12 ?_) | (with_reducible refine bg12 ?_) | (with_reducible refine bf13 ?_) | (with_reducible refine bg13 ?_) | (with_reducible refine bf14 ?_) | (with_reducible refine bg14 ?_) | (with_reducible refine bf15 ?_) | (with_reducible refine bg15 ?_) | (with_reducible refine bf16 ?_) | (with_reducible refine bg16 ?_) | (with_reducible refine bf17 ?_) | (with_reducible refine bg17 ?_) | (with_reducible refine bf18 ?_) | (with_reducible refine bg18 ?_)); k_extra "MYM")
  (k_with "MY ap3" => first | exact List.forall_mem_nil _ | (refine' allk ?a9_z ?b9_z; (case a9_z => k_ne); (case b9_z => k_extra "MY ap3")))
  (k_with "k_all!" => k_extra "MY ap3")
  (k_with "k_ne!" => (refine neN ?_; (try dsimp only); first | (refine' aps_ne ?A_z ?B_z; (case A_z => with_reducible assumption); (case B_z => k_extra "MYB")) | (refine' lt_neS ?L_z ?M_z; (case L_z => with_reducible assumption); (case M_z => k_extra "MYM")) | (refine' allLt_ne ?L_z ?M_z; (case L_z => with_reducible assumption); (case M_z => k_extra "MYM")) | (refine' AllAp.get ?L_z ?M_z; (case L_z => with_reducible assumption); (case M_z => k_extra "MYM")) | (refine' (AllAp.get ?L_z ?M_z).symm; (case L_z => with_reducible assumption); (case M_z => k_extra "MYM")) | exact ne_lt (by with_reducible assumption) | exact (ne_lt (by with_reducible assumption)).symm | exact Ap3.ic (by with_reducible assumption) | exact Ap3.id (by with_reducible assumption) | exact Ap3.cd (by with_reducible assumption) | exact (Ap3.ic (by with_reducible assumption)).symm | exact (Ap3.id (by with_reducible assumption)).symm | exact (Ap3.cd (by with_reducible assumption)).symm | (refine' allLt_ne2 ?e_z ?L_z ?M_z; (case e_z => with_reducible assumption); (case L_z => with_reducible assumption); (case M_z => k_extra "MYM")) | (refine' (allLt_ne2 ?e_z ?L_z ?M_z).symm; (case e_z => with_reducible assumption); (case L_z => with_reducible assumption); (case M_z => k_extra "MYM")) | (refine' off1_d ?L_z ?M_z; (case L_z => with_reducible assumption); (case M_z => k_extra "MYM")) | (refine' (off1_d ?L_z ?M_z).symm; (case L_z => with_reducible assumption); (case M_z => k_extra "MYM")) | fail "MY ne"))
  trivial
theorem off3_conv {I C D : Addr} {l l' : List (Addr × Obj)} (o : Off3S I C D l) (s : LCg.Off3 I C D l → LCg.Off3 I C D l') : LCg.Off3 I C D l' := s o.h
theorem comp_grow {h₀ h' : Heap} {L I C D a b c : Addr} {oa ob oc : Obj} {m : Str → Option Value} {s₁ : Shared} {oI oC oD : Obj} {S : List (Addr × Obj) → Prop} {rest : Value → List (Addr × Obj) → Prop} {y : Value} {tk : Nat} {news : List (Addr × Obj)}
    (F : Fr h₀ L h' m) (N : News h₀ L h' ((a, oa) :: (b, ob) :: (c, oc) :: (I, oI) :: (C, oC) :: (D, oD) :: news)) (ha : a ≠ I ∧ a ≠ C ∧ a ≠ D) (hb : b ≠ I ∧ b ≠ C ∧ b ≠ D) (hc : c ≠ I ∧ c ≠ C ∧ c ≠ D) (off : LCg.Off3 I C D news)
    (hS : S ((a, oa) :: (b, ob) :: (c, oc) :: news)) (r : rest y ((a, oa) :: (b, ob) :: (c, oc) :: news)) : LCg.CompEnd h₀ L m s₁ I oI C oC D oD S rest y { s₁ with heap := h', toks := tk } :=
  LCg.CompEnd.intro F (fun p hp => N p (by
    simp only [List.mem_cons] at hp ⊢
    rcases hp with h | h | h | h | h | h | h
    · exact .inr (.inr (.inr (.inl h)))
    · exact .inr (.inr (.inr (.inr (.inl h))))
    · exact .inr (.inr (.inr (.inr (.inr (.inl h)))))
    · exact .inl h
    · exact .inr (.inl h)
    · exact .inr (.inr (.inl h))
    · exact .inr (.inr (.inr (.inr (.inr (.inr h))))))) ((a, oa) :: (b, ob) :: (c, oc) :: news) (fun _ h => h) ⟨ha, hb, hc, off⟩ hS r
theorem aps_nodup : ∀ {l : List Addr}, Aps l ↔ l.Nodup
  | [] => ⟨fun _ => List.nodup_nil, fun _ => trivial⟩
  | a :: l => by
    rw [List.nodup_cons, ← aps_nodup]
    exact ⟨fun h => ⟨fun hm => (h.1 a hm).ne rfl, h.2⟩, fun h => ⟨fun b hb => ⟨fun e => h.1 (e ▸ hb)⟩, h.2⟩⟩
theorem perm3 {C B A R : List Addr} : (C ++ (B ++ (A ++ R))).Perm (A ++ (B ++ (C ++ R))) :=
  (List.perm_append_comm_assoc C B (A ++ R)).trans (((List.perm_append_comm_assoc C A R).append_left B).trans (List.perm_append_comm_assoc B A (C ++ R)))
example : True := by
  (k_with "CompEnd!" => (refine' comp_grow ?F_z ?N_z ?a_z ?b_z ?c_z ?o_z ?S_z ?_; (case F_z => k_asm); (case N_z => first | with_reducible assumption | assumption); (case a_z => exact ⟨by k_ne, by k_ne, by k_ne⟩); (case b_z => exact ⟨by k_ne, by k_ne, by k_ne⟩); (case c_z => exact ⟨by k_ne, by k_ne, by k_ne⟩); (case o_z => (refine' off3_conv ?oo_z ?ss_z; (case oo_z => with_reducible assumption); (case ss_z => exact fun h => h))); (case S_z => lcg_src)))
  trivial
theorem aps_drop {P A R : List Addr} {a b c : Addr} (h : Aps (P ++ (A ++ (a :: b :: c :: R)))) : Aps (P ++ (A ++ R)) :=
  aps_nodup.mpr ((aps_nodup.mp h).sublist (((((List.sublist_cons_self c R).cons b).cons a).append_left A).append_left P))
theorem aps_perm {P Q₁ Q₂ : List Addr} (h : Aps (P ++ Q₁)) (p : Q₁.Perm Q₂) : Aps (P ++ Q₂) := aps_nodup.mpr ((p.append_left P).nodup_iff.mp (aps_nodup.mp h))
def Ord3 (vs : List Value) (x y z : Addr) (i j k : Int) : Prop :=
  (vs = [.ref x, .ref y, .ref z] ∧ i = 0 ∧ j = 1 ∧ k = 2) ∨ (vs = [.ref y, .ref x, .ref z] ∧ i = 1 ∧ j = 0 ∧ k = 2) ∨ (vs = [.ref y, .ref z, .ref x] ∧ i = 2 ∧ j = 0 ∧ k = 1)
section
variable {w : World} {mean : ExcName → Option Value} {mg mb : Str → Option Value} {A₀ : Around} {dp un : Nat} {gd : Option (List Code)} {base g : Heap} {outer : List Env} {L : Addr} {m : Str → Option Value} {env : Env} {s : Shared} {E : Value → Shared → Prop} {Q : Value → Shared → Prop}
    {pl pi M dM sm S dS al ch dc row x0 x1 x2 d0 d1 d2 f0 f1 f2 cb ca : Addr} {tp tq m1 m2 m3 m4 m5 m6 t1 t2 t3 c1 c2 u1 u2 u3 u4 u5 u6 u7 a1 a2 a3 a4 a5 a6 a7 b1 b2 b3 b4 b5 b6 b7 tz tc : Tok} {npl npi n nr : Nat} {hp gv wt gdv hr : Value} {c cc : Int} {ocb oca : Obj}
theorem call_chooseT (B : Below A₀ base outer g) (X : (Mine.hd0.heap_1_1 w.params).In g) (T : Top PV LO mean mg mb g) (F : Fr g L s.heap m)
    (N : News g L s.heap ((pl, tupOf #[.int 3 tp, .ref pi] npl) :: (pi, tupOf #[.int cc tq] npi) :: (M, instObj 346 dM) :: (dM, metD w m1 m2 m3 m4 m5 m6 hp (.ref S) gv wt gdv) :: (sm, LCg.lst [.ref x0, .ref x1, .ref x2]) :: (x2, instObj 615 d2) :: (d2, gorD w b1 b2 b3 b4 b5 (.int 2 b6) (.str (Str.ofString "ready") b7) .none (.ref f2) .none) :: (x1, instObj 615 d1) :: (d1, gorD w a1 a2 a3 a4 a5 (.int 1 a6) (.str (Str.ofString "ready") a7) .none (.ref f1) .none) :: (x0, instObj 615 d0) :: (d0, gorD w u1 u2 u3 u4 u5 (.int 0 u6) (.str (Str.ofString "ready") u7) .none (.ref f0) .none) :: (al, listOf #[.ref x0, .ref x1, .ref x2] n) :: (S, instObj 705 dS) :: (dS, schD w t1 t2 t3 (.ref ch) (.ref al) hr) :: (ch, instObj 461 dc) :: (dc, chcD w c1 c2 (.ref row) (.int 0 tz)) :: (row, listOf #[.int c tc] nr) :: (cb, ocb) :: (ca, oca) :: []))
    (hf : env.frame = some L) (hke : env.scope.kind = .function) (hroom : dp ≤ 900) (hun : un ≤ 8500) (aps : Aps [pl, pi, M, dM, sm, x2, d2, x1, d1, x0, d0, al, S, dS, ch, dc, row, cb, ca]) (hc0 : 0 ≤ c) (hc3 : c < 3)
    (key : ∀ {x d f y dy fy z dz fz : Addr} {v1 v2 v3 v4 v5 v6 v7 y1 y2 y3 y4 y5 y6 y7 z1 z2 z3 z4 z5 z6 z7 : Tok} {i j k : Int} {vs : List Value}, Ord3 vs x y z i j k → ∀ h' tk, Fr g L h' m → News g L h' ((pl, tupOf #[.int 3 tp, .ref pi] npl) :: (pi, tupOf #[.int cc tq] npi) :: (M, instObj 346 dM) :: (dM, metD w m1 m2 m3 m4 m5 m6 hp (.ref S) gv wt gdv) :: (sm, LCg.lst vs) :: (x, instObj 615 d) :: (d, gorD w v1 v2 v3 v4 v5 (.int i v6) (.str (Str.ofString "ready") v7) .none (.ref f) .none) :: (y, instObj 615 dy) :: (dy, gorD w y1 y2 y3 y4 y5 (.int j y6) (.str (Str.ofString "ready") y7) .none (.ref fy) .none) :: (z, instObj 615 dz) :: (dz, gorD w z1 z2 z3 z4 z5 (.int k z6) (.str (Str.ofString "ready") z7) .none (.ref fz) .none) :: (al, listOf vs.toArray n) :: (S, instObj 705 dS) :: (dS, schD w t1 t2 t3 (.ref ch) (.ref al) (.ref x)) :: (cb, ocb) :: (ca, oca) :: []) → Aps [pl, pi, M, dM, sm, x, d, y, dy, z, dz, al, S, dS, cb, ca] → Q (.ref x) { s with heap := h', toks := tk }) :
    wpAny (model PR w) ⟨none, dp, some (env :: outer), gd, un⟩ (call (.ref 688) [.ref S]) Q E s := by
  refine' call_choose B X T F N mm12 mm13 mm11 mm9 mm10 mm7 mm8 mm5 mm6 mm14 mm15 mm16 hf hke hroom hun ?aps hc0 hc3 ?U ?U2 ?k0 ?k1 ?k2
  case aps => (repeat' (first | exact True.intro | exact List.forall_mem_nil _ | refine And.intro ?_ ?_ | refine allc ?_ | exact ⟨by k_ne⟩))
  case U => k_updF
  case U2 => (intro x9; (try dsimp only); k_updF)
  case k0 =>
    intro u h' tk F' N'
    (try dsimp only at N')
    exact key (x := x0) (y := x1) (z := x2) (.inl ⟨rfl, rfl, rfl, rfl⟩) h' tk F' (News_sub9 N' (sel_cons mm0 (sel_cons mm1 (sel_cons mm2 (sel_cons mm3 (sel_cons mm4 (sel_cons mm9 (sel_cons mm10 (sel_cons mm7 (sel_cons mm8 (sel_cons mm5 (sel_cons mm6 (sel_cons mm11 (sel_cons mm12 (sel_cons mm13 (sel_cons mm17 (sel_cons mm18 sel_nil))))))))))))))))) (aps_perm (P := [pl, pi, M, dM, sm]) (aps_drop (P := [pl, pi, M, dM, sm, x2, d2, x1, d1]) (A := [x0, d0, al, S, dS]) aps) (perm3 (C := [x2, d2]) (B := [x1, d1]) (A := [x0, d0])))
  case k1 =>
    intro u h' tk F' N'
    (try dsimp only at N')
    exact key (x := x1) (y := x0) (z := x2) (.inr (.inl ⟨rfl, rfl, rfl, rfl⟩)) h' tk F' (News_sub9 N' (sel_cons mm0 (sel_cons mm1 (sel_cons mm2 (sel_cons mm3 (sel_cons mm4 (sel_cons mm7 (sel_cons mm8 (sel_cons mm9 (sel_cons mm10 (sel_cons mm5 (sel_cons mm6 (sel_cons mm11 (sel_cons mm12 (sel_cons mm13 (sel_cons mm17 (sel_cons mm18 sel_nil))))))))))))))))) (aps_perm (P := [pl, pi, M, dM, sm]) (aps_drop (P := [pl, pi, M, dM, sm, x2, d2, x1, d1]) (A := [x0, d0, al, S, dS]) aps) ((perm3 (C := [x2, d2]) (B := [x1, d1]) (A := [x0, d0])).trans (List.perm_append_comm_assoc [x0, d0] [x1, d1] _)))
  case k2 =>
    intro u h' tk F' N'
    (try dsimp only at N')
    exact key (x := x2) (y := x0) (z := x1) (.inr (.inr ⟨rfl, rfl, rfl, rfl⟩)) h' tk F' (News_sub9 N' (sel_cons mm0 (sel_cons mm1 (sel_cons mm2 (sel_cons mm3 (sel_cons mm4 (sel_cons mm5 (sel_cons mm6 (sel_cons mm9 (sel_cons mm10 (sel_cons mm7 (sel_cons mm8 (sel_cons mm11 (sel_cons mm12 (sel_cons mm13 (sel_cons mm17 (sel_cons mm18 sel_nil))))))))))))))))) (aps_perm (P := [pl, pi, M, dM, sm]) (aps_drop (P := [pl, pi, M, dM, sm, x2, d2, x1, d1]) (A := [x0, d0, al, S, dS]) aps) ((List.perm_append_comm_assoc [x1, d1] [x0, d0] _).append_left [x2, d2]))
theorem call_readyG {x d f y dy fy z dz fz : Addr} {i j k : Int} {vs : List Value} {chv wf : Value} {news : List (Addr × Obj)} (o3 : Ord3 vs x y z i j k) (B : Below A₀ base outer g) (X : (Mine.hd0.heap_1_1 w.params).In g) (T : Top PV LO mean mg mb g) (F : Fr g L s.heap m) (N : News g L s.heap news)
    (h1 : (S, instObj 705 dS) ∈ news) (h2 : (dS, schD w t1 t2 t3 chv (.ref al) hr) ∈ news) (h3 : (al, listOf vs.toArray n) ∈ news) (h4 : (x, instObj 615 d) ∈ news) (h5 : (d, gorD w u1 u2 u3 u4 u5 (.int i u6) (.str (Str.ofString "blocked") u7) wf (.ref f) .none) ∈ news) (h6 : (y, instObj 615 dy) ∈ news) (h7 : (dy, gorD w a1 a2 a3 a4 a5 (.int j a6) (.str (Str.ofString "ready") a7) .none (.ref fy) .none) ∈ news) (h8 : (z, instObj 615 dz) ∈ news) (h9 : (dz, gorD w b1 b2 b3 b4 b5 (.int k b6) (.str (Str.ofString "ready") b7) .none (.ref fz) .none) ∈ news) (hf : env.frame = some L) (hke : env.scope.kind = .function) (hroom : dp ≤ 900) (hun : un ≤ 8500) (aps : Aps [S, dS, al, x, d, y, dy, z, dz])
    (q : ∀ l n h' tk, Fr g L h' m → News g L h' ((l, listOf #[.ref y, .ref z] n) :: news) → AllAp l news → Q (.ref l) { s with heap := h', toks := tk }) :
    wpAny (model PR w) ⟨none, dp, some (env :: outer), gd, un⟩ (call (.ref 652) [.ref S]) Q E s := by
  rcases o3 with ⟨rfl, rfl, rfl, rfl⟩ | ⟨rfl, rfl, rfl, rfl⟩ | ⟨rfl, rfl, rfl, rfl⟩
  · exact call_ready0 B X T F N h1 h2 h3 h4 h5 h6 h7 h8 h9 hf hke hroom hun aps q
  · exact call_ready1 B X T F N h1 h2 h3 h6 h7 h4 h5 h8 h9 hf hke hroom hun (aps_perm (P := [S, dS, al]) aps (List.perm_append_comm_assoc [x, d] [y, dy] [z, dz])) q
  · exact call_ready2 B X T F N h1 h2 h3 h6 h7 h8 h9 h4 h5 hf hke hroom hun (aps_perm (P := [S, dS, al]) aps ((List.perm_append_comm_assoc [x, d] [y, dy] [z, dz]).trans ((List.perm_append_comm_assoc [x, d] [z, dz] []).append_left [y, dy]))) q
theorem call_letG {x d y z nl place : Addr} {i j k : Int} {vs : List Value} {chv wf num frv an : Value} {tk : Tok} {nn : Nat} {gf : Obj → List (Addr × Obj)} {news : List (Addr × Obj)} (o3 : Ord3 vs x y z i j k) (B : Below A₀ base outer g) (X : (Mine.hd0.heap_1_1 w.params).In g) (T : Top PV LO mean mg mb g) (F : Fr g L s.heap m) (N : News g L s.heap news)
    (h1 : (M, instObj 346 dM) ∈ news) (h2 : (dM, metD w m1 m2 m3 m4 m5 m6 hp (.ref S) gv wt gdv) ∈ news) (h3 : (S, instObj 705 dS) ∈ news) (h4 : (dS, schD w t1 t2 t3 chv (.ref al) hr) ∈ news) (h5 : (al, listOf vs.toArray n) ∈ news) (h6 : (x, instObj 615 d) ∈ news) (h7 : (d, gorD w u1 u2 u3 u4 u5 num (.str (Str.ofString "blocked") u7) wf frv an) ∈ news) (h8 : (nl, listOf #[.int i tk] nn) ∈ news) (hf : env.frame = some L) (hke : env.scope.kind = .function) (hroom : dp ≤ 900) (hun : un ≤ 8500) (aps : Aps [M, dM, S, dS, al, x, d, nl]) (U : UpdF d (gorD w u1 u2 u3 u4 u5 num (.str (Str.ofString "blocked") u7) wf frv an) news gf)
    (q : ∀ a u n u8 h' tk, Fr g L h' m → News g L h' ((a, tupOf #[.str (Str.ofString "passed") u] n) :: gf (gorD w u1 u2 u3 u4 u5 num (.str (Str.ofString "ready") u8) .none frv (.ref a))) → AllAp a news → Q .none { s with heap := h', toks := tk }) :
    wpAny (model PR w) ⟨none, dp, some (env :: outer), gd, un⟩ (call (.ref 336) [.ref M, .ref place, .ref nl]) Q E s := by
  rcases o3 with ⟨rfl, rfl, rfl, rfl⟩ | ⟨rfl, rfl, rfl, rfl⟩ | ⟨rfl, rfl, rfl, rfl⟩
  · exact call_letX (kn := 0) (by decide) (by decide) rfl B X T F N h1 h2 h3 h4 h5 h6 h7 h8 hf hke hroom hun aps U q
  · exact call_letX (kn := 1) (by decide) (by decide) rfl B X T F N h1 h2 h3 h4 h5 h6 h7 h8 hf hke hroom hun aps U q
  · exact call_letX (kn := 2) (by decide) (by decide) rfl B X T F N h1 h2 h3 h4 h5 h6 h7 h8 hf hke hroom hun aps U q
end
theorem join_list {M : Model} {A : Around} {E : Value → Shared → Prop} {Q : Value → Shared → Prop} {g : Heap} {L : Addr} {m : Str → Option Value} {s : Shared} {news : List (Addr × Obj)} {c : Sem Value} {j k : Int}
    (_ : Fr g L s.heap m) (_ : News g L s.heap news) (h1 : ∀ Q' : Value → Shared → Prop, (∀ l n (t1 t2 : Tok) h' tk, Fr g L h' m → News g L h' ((l, listOf #[.int j t1, .int k t2] n) :: news) → AllAp l news → Q' (.ref l) { s with heap := h', toks := tk }) → wpAny M A c Q' E s)
    (h2 : ∀ l n (t1 t2 : Tok) h' tk, Fr g L h' m → News g L h' ((l, listOf #[.int j t1, .int k t2] n) :: news) → AllAp l news → Q (.ref l) { s with heap := h', toks := tk }) : wpAny M A c Q E s := h1 Q h2
theorem sk_sync : PyData.strOk (Str.ofString "sync") = true := by decide +kernel
theorem sk_passed : PyData.strOk (Str.ofString "passed") = true := by decide +kernel
theorem sk_ready : PyData.strOk (Str.ofString "ready") = true := by decide +kernel
example : True := by
  (k_with "MY kok" => (simp [kqdOk, ok_blocked, sk_sync, sk_passed, sk_ready]; done))
  (k_with "compareOp NotEq ref ref!" => (k_here; (with_reducible show wpAny _ _ (compareOp CmpOp.NotEq (Value.ref _) (Value.ref _)) _ _ _); k_dflt (refine' ne_dat ?N_z ?ma_z ?mb_z ?da_z (fun _ h => h) ?db_z (fun _ h => h) ?ok_z ?u_z ?_; (case N_z => k_asm); (case ma_z => k_mem); (case mb_z => k_mem); (case da_z => kqd_all); (case db_z => kqd_all); (case ok_z => k_extra "MY kok"); (case u_z => ke_room))))
  (k_with "compareOp Eq ref ref!" => (k_here; (with_reducible show wpAny _ _ (compareOp CmpOp.Eq (Value.ref _) (Value.ref _)) _ _ _); k_dflt (refine' eq_dat ?N_z ?ma_z ?mb_z ?da_z (fun _ h => h) ?db_z (fun _ h => h) ?ok_z ?u_z ?_; (case N_z => k_asm); (case ma_z => k_mem); (case mb_z => k_mem); (case da_z => kqd_all); (case db_z => kqd_all); (case ok_z => k_extra "MY kok"); (case u_z => ke_room))))
  trivial
set_option rowWalk.seconds 0 in
set_option maxRecDepth 100000 in
set_option maxHeartbeats 16000000 in
theorem gates_spec {w : World} {mean : ExcName → Option Value} {mg mb : Str → Option Value} {dp un : Nat} {gd : Option (List Code)} {base g : Heap} {fs : List Env} {s : Shared}
    {pot : Addr} {a b : Int} {ta tb : Tok} (G : Gd w mean mg mb ⟨none, dp, some fs, gd, un⟩ base fs g) (hx : Ext g s.heap)
    (hroom : dp ≤ 800) (hun : un ≤ 8000) (ok : PotOk a b)
    (N : NewsG g s.heap [(pot, potObj a b ta tb)]) :
    codeAny (model PR w) ⟨none, dp, some fs, gd, un⟩ (.call (.ref 759) ⟨[.ref pot], []⟩) (Done s g (fun v _ => v = .bool true)) s := by
  refine unbx ?_
  simp (discharger := (k_dflt (
      refine enterGC (binds := [(Str.ofString "pot", .ref pot)]) G hx N (by k_is) (by k_is) (by exact Nat.lt_of_le_of_lt hroom (by decide)) (by exact BindsTo.of_eq rfl) (by exact rfl) (by decide +kernel) ?_ (by exact rfl) (by exact rfl) (by exact rfl)
      intro L' h' tk' cells' F' N' Y' lt'
      have B' := G.B
      have X' := G.X
      have T' := G.T
      replace lt' := allLt_of lt'
      simp only [AllLt, and_true] at lt'
      k_cells Y'
      simp only [List.cons_append, List.nil_append] at N'
      clear N hx
      try dsimp only
      (try k_fold)
      repeat' ((fail_if_success (with_reducible show wpAny _ _ (call (Value.ref 308) _) _ _ _)); k_extra "MY step")
      rename Fr _ _ _ _ => F9
      rename News _ _ _ _ => N9
      replace N9 := News_sub9 N9 (sel_cons mm1 (sel_cons mm2 (sel_cons mm3 (sel_cons mm4 (sel_cons mm5 (sel_cons mm7 (sel_cons (a := (_, metD w _ _ _ _ _ _ _ _ _ _ _)) mm8 (sel_cons mm12 (sel_cons mm13 (sel_cons mm14 (sel_cons mm16 (sel_cons mm17 (sel_cons mm19 (sel_cons mm20 (sel_cons mm22 (sel_cons mm23 (sel_cons mm24 (sel_cons mm25 (sel_cons (a := (_, chcD w _ _ _ _)) mm26 (sel_cons mm27 (sel_cons mm28 (sel_cons mm29 sel_nil))))))))))))))))))))))
      obtain ⟨kp, ko, tt⟩ := keys_of (w := w) N9 (by k_mem) (by k_mem) (by k_mem) (by k_mem)
      refine' call_gateN (xs := []) B' X' T' F9 N9 ?h1 ?h2 ?U ?htl rfl rfl ?hr ?hu ?aps tt ?GG ?hk kp ?lo ?hz ?hno ?hks ?_
      case h1 => k_mem
      case h2 => k_mem
      case U => k_updF
      case htl => k_extra "MY sub4"
      case hr => k_extra "MY room"
      case hu => k_extra "MY room"
      case aps => k_extra "MY aps"
      case GG => exact GT.ofEmpty (by assumption)
      case hk => exact List.forall_mem_nil _
      case lo => assumption
      case hz => exact Nat.zero_le _
      case hno => exact rfl
      case hks => assumption
      clear F9 N9
      intro ga og oG1 h1' tk1' F10 N10 apga oc1 GG1
      (try dsimp only at N10)
      repeat' ((fail_if_success (with_reducible show wpAny _ _ (call (Value.ref 308) _) _ _ _)); k_extra "MY step")
      rename Fr _ _ _ _ => F9
      rename News _ _ _ _ => N9
      refine' call_gateO B' X' T' F9 N9 ?h1 ?h2 ?h3 ?htl rfl rfl ?hr ?hu GG1 (key_snoc (List.forall_mem_nil _) kp) kp ?lo (atKey_snoc rfl) ?_
      case h1 => k_mem
      case h2 => k_mem
      case h3 => k_mem
      case htl => k_extra "MY sub4"
      case hr => k_extra "MY room"
      case hu => k_extra "MY room"
      case lo => assumption
      clear F9 N9
      intro h2' tk2' F11 N11
      repeat' ((fail_if_success (with_reducible show wpAny _ _ (call (Value.ref 308) _) _ _ _)); k_extra "MY step")
      rename Fr _ _ _ _ => F9
      rename News _ _ _ _ => N9
      refine' call_gateN B' X' T' F9 N9 ?h1 ?h2 ?U ?htl rfl rfl ?hr ?hu ?aps tt GG1 (key_snoc (List.forall_mem_nil _) kp) ko ?lo ?hz ?hno ?hks ?_
      case h1 => k_mem
      case h2 => k_mem
      case U => k_updF
      case htl => k_extra "MY sub4"
      case hr => k_extra "MY room"
      case hu => k_extra "MY room"
      case aps => k_extra "MY aps"
      case lo => assumption
      case hz => exact Nat.le_of_ble_eq_true rfl
      case hno => simp [atKey]
      case hks => assumption
      clear F9 N9
      intro ga2 og2 oG2 h3' tk3' F12 N12 apga2 oc2 GG2
      (try dsimp only at N12)
      repeat' ((fail_if_success (with_reducible show wpAny _ _ (compareOp CmpOp.Is (Value.ref _) (Value.ref _)) _ _ _)); k_extra "MY step")
      rename Fr _ _ _ _ => F9
      rename News _ _ _ _ => N9
      refine kto_is (N9.get (show (ga2, og2) ∈ _ by k_mem)) (N9.get (show (ga, og) ∈ _ by k_mem)) (AllAp.get apga2 (show (ga, og) ∈ _ by k_mem)).symm oc2 ?_
      repeat' ((fail_if_success (with_reducible show wpAny _ _ (call (Value.ref 688) _) _ _ _)); k_extra "MY step")
      dsimp only [List.append_nil]
      rename Fr _ _ _ _ => F9
      rename News _ _ _ _ => N9
      replace N9 := News_sub9 N9 (sel_cons mm4 (sel_cons mm5 (sel_cons mm7 (sel_cons mm8 (sel_cons mm9 (sel_cons mm10 (sel_cons mm11 (sel_cons mm12 (sel_cons mm13 (sel_cons mm14 (sel_cons mm15 (sel_cons mm16 (sel_cons mm17 (sel_cons mm18 (sel_cons mm19 (sel_cons mm20 (sel_cons mm21 (sel_cons mm22 (sel_cons mm23 sel_nil)))))))))))))))))))
      refine' call_chooseT B' X' T' F9 N9 rfl rfl ?hr ?hu ?aps ?hc0 ?hc3 ?key
      case hr => k_extra "MY room"
      case hu => k_extra "MY room"
      case aps => k_extra "MY aps"
      case hc0 => omega
      case hc3 => omega
      clear F9 N9
      intro x d f y dy fy z dz fz v1 v2 v3 v4 v5 v6 v7 y1 y2 y3 y4 y5 y6 y7 z1 z2 z3 z4 z5 z6 z7 i j k vs o3 h' tk F9 N9 aps9
      (try k_sweep)
      repeat' ((fail_if_success (with_reducible show wpAny _ _ (eval (Expr.ListComp _ _ _ _) _) _ _ _)); k_extra "MY step")
      k_extra "MY step"
      repeat' ((fail_if_success (with_reducible show wpAny _ _ (eval (Expr.ListComp _ _ _ _) _) _ _ _)); k_extra "MY step")
      rename Fr _ _ _ _ => F8
      rename News _ _ _ _ => N8
      refine join_list (j := j) (k := k) F8 N8 ?_ ?_
      · intro Q' kk
        rcases o3 with ⟨rfl, rfl, rfl, rfl⟩ | ⟨rfl, rfl, rfl, rfl⟩ | ⟨rfl, rfl, rfl, rfl⟩
        all_goals (repeat' (k_extra "MY step"))
        all_goals (rename Fr _ _ _ _ => F7; rename News _ _ _ _ => N7)
        all_goals (exact kk _ _ _ _ _ _ F7 N7 (fun p hp => off1_d (o := p.2) (by with_reducible assumption) hp))
      · intro l9 n9 s1 s2 h9 tk9 F9 N9 ap9
        (try k_sweep)
        repeat' (k_extra "MY step")
        all_goals (try dsimp only)
        all_goals (rename Fr _ _ _ _ => F9; exact Done.of F9 rfl)))) only [↓bx]

end
section
example : True := by
  w_top off
  k_with_none
  (k_with "ite!" => with_reducible (first | refine itT ?_ | refine itF ?_ | refine itNT ?_ | refine itNF ?_))
  (k_with "subscriptTail Name Constant ref str!" => (k_here; k_dflt (refine' itemN (knd := PySem.strKind _ _) ?N_z ?m_z ?d_z (strKind_is _ _ _ _) ?r_z ?_ ?s_z ?g_z; (case N_z => k_asm); (case m_z => k_mem); (case d_z => k_asm); (case r_z => rfl); (case s_z => with_unfolding_all rfl); (case g_z => (intro _; with_unfolding_all rfl)))))
  (k_with "subscriptTail Name Constant ref int!" => (k_here; first | k_extra "subscriptTail!" | k_dflt (refine' item_tupleT ?t_z ?a_z ?b_z ?c_z ?d_z ?_; (case t_z => exact News.isTup (by k_asm) (by k_mem)); (case a_z => decide); (case b_z => decide); (case c_z => rfl); (case d_z => rfl); k_whole)))
  (k_with "eval Name!" => (k_here; k_dflt (refine' nameX_L ?F_z ?v_z ?_ ?a_z ?b_z; (case F_z => k_asm); (case a_z => rfl); (case b_z => rfl); (case v_z => rfl); k_whole)))
  (k_with "exec Assign!" => ((with_reducible show wpAny _ _ (exec (Stmt.Assign [Expr.Name _ _] _ _) _) _ _ _); with_reducible refine wpAny_Assign_Name ?_))
  (k_with "MY rd" => first | exact RdArgs.nil | (refine' RdArgs.name ?x_z ?d_z ?v_z ?r_z; (case x_z => rfl); (case d_z => decide); (case v_z => rfl); (case r_z => k_extra "MY rd")) | (refine' RdArgs.str ?r_z; (case r_z => k_extra "MY rd")) | (refine' RdArgs.int ?r_z; (case r_z => k_extra "MY rd")) | (refine' RdArgs.bool ?r_z; (case r_z => k_extra "MY rd")) | (refine' RdArgs.non ?r_z; (case r_z => k_extra "MY rd")))
  (k_with "spliced!" => (k_here; (first | with_reducible show wpAny _ _ (spliced (backTo _ (starEach (Expr.Name _ _ :: _) _))) _ _ _ | with_reducible show wpAny _ _ (spliced (backTo _ (starEach (Expr.Constant _ _ _ :: _) _))) _ _ _); k_dflt (refine' args_rd ?F_z ?k_z ?r_z ?_; (case F_z => k_asm); (case k_z => rfl); (case r_z => k_extra "MY rd"); k_whole); (try dsimp only [List.cons_append, List.nil_append])))
  (k_with "eval Constant str!" => with_reducible refine const_str ?_)
  (k_with "eval Constant int!" => with_reducible refine const_int ?_)
  (k_with "storeName!" => (k_here; k_dflt (refine' storeN ?F_z ?N_z ?_ ?a_z ?b_z; (case F_z => k_asm); (case N_z => k_asm); (case a_z => rfl); (case b_z => rfl); k_whole; intro hq' Fq' Nq'; (try k_sweep))))
  (k_with "unpackItems ref!" => (k_here; k_dflt (refine' unpackN ?k1_z ?k2_z ?k3_z ?k4_z ?k5_z ?_; (case k1_z => k_asm); (case k2_z => k_asm); (case k3_z => kun_tup); (case k4_z => exact rfl); (case k5_z => exact rfl); k_whole); intro hq' Fq' Nq'; (try k_sweep)))
  (k_with "newTuple cons!" => (k_here; (with_reducible show wpAny _ _ (newTuple [_, _]) _ _ _); k_dflt (first | (refine' tupTo2 ?F_z ?N_z ?k_z ?x_z ?y_z ?hh_z ?_; (case F_z => k_asm); (case N_z => k_asm); (case k_z => rfl); (case x_z => rfl); (case y_z => rfl); (case hh_z => exact rfl); k_whole) | (refine' tupTo2s ?F_z ?N_z ?t_z ?k_z ?x_z ?y_z ?hh_z ?_; (case F_z => k_asm); (case N_z => k_asm); (case t_z => with_unfolding_all rfl); (case k_z => rfl); (case x_z => rfl); (case y_z => rfl); (case hh_z => exact rfl); k_whole)); intro hq' Fq' Nq'; (try k_sweep)))
  (k_with "eval Subscript!" => (k_here; (with_reducible show wpAny _ _ (eval (Expr.Subscript (Expr.Name _ _) (Expr.Constant (Const.str _) _ _) _) _) _ _ _); k_dflt (refine' subName ?F_z ?N_z ?k_z ?x_z ?b_z ?v_z ?p_z ?o_z ?l_z ?_; (case F_z => k_asm); (case N_z => k_asm); (case k_z => rfl); (case x_z => rfl); (case b_z => decide); (case v_z => rfl); (case p_z => k_mem); (case o_z => k_asm); (case l_z => rfl); k_whole)))
  (k_with "execs cons!" => (k_here; (first | (with_reducible refine execs_gen ?_; intro tq') | with_reducible refine wpAny_execs_cons ?_); (try k_fold)))
  (k_with "k_room!" => first | (refine' rm_k ?h_z ?e_z; (case h_z => with_reducible assumption); (case e_z => rfl)) | ((try simp only [depth_under_make, depth_under_kw, depth_in1, depth_deeper, depth_caller]); show _ < 1000; (try dsimp only); omega))
  (k_with "ke_room!" => first | (refine' rm_u ?h_z ?e_z; (case h_z => with_reducible assumption); (case e_z => rfl)) | ((simp only [units_under_make, units_in1, units_deeper, Around.mark_units, units_caller]); show _ < 9900; (try dsimp only); omega))
  (k_with "MY room" => first | (refine' rm_le ?h_z ?e_z; (case h_z => with_reducible assumption); (case e_z => rfl)) | ((try simp only [depth_under_make, depth_under_kw, depth_in1, depth_deeper, depth_caller, units_under_make, units_in1, units_deeper, Around.mark_units, units_caller]); (try dsimp only); omega))
  (k_with "call ref!" => (k_here; (with_reducible show wpAny _ _ (call (Value.ref 723) _) _ _ _); k_dflt (refine' call_scoop ?k1_z ?k2_z ?k3_z ?k4_z ?k5_z ?U_z ?hf_z ?hk_z ?hr_z ?hu_z ?p1_z ?p4_z ?p5_z ?_; (case hf_z => exact rfl); (case hk_z => exact rfl); (case k1_z => k_asm); (case k2_z => k_asm); (case k3_z => k_asm); (case k4_z => k_asm); (case k5_z => k_asm); (case U_z => k_updF); (case hr_z => k_extra "MY room"); (case hu_z => k_extra "MY room"); (case p1_z => k_asm); (case p4_z => omega); (case p5_z => omega); k_whole); intro h' tk' r' tr' a' ta' b' tb' F' N' hr0' hr1' ok'; (try dsimp only at N'); (try k_sweep)))
  (k_with "newTuple!" => (k_here; k_dflt (refine' newTupS ?F_z ?N_z ?z_z ?_; (case F_z => k_asm); (case N_z => k_asm); (case z_z => rfl); k_whole); intro Dq' hq' lq' Fq' Nq'; (try k_sweep)))
  (k_with "newList!" => (k_here; k_dflt (refine' newListS ?F_z ?N_z ?z_z ?_; (case F_z => k_asm); (case N_z => k_asm); (case z_z => rfl); k_whole); intro Dq' hq' lq' Fq' Nq'; (try k_sweep)))
  (k_with "MYM" => with_reducible (first | exact mm0 | exact mm1 | exact mm2 | exact mm3 | exact mm4 | exact mm5 | exact mm6 | exact mm7 | exact mm8 | exact mm9 | exact mm10 | exact mm11 | exact mm12 | exact mm13 | exact mm14 | exact mm15 | exact mm16 | exact mm17 | exact mm18 | exact mm19 | exact mm20 | exact mm21 | exact mm22 | exact mm23 | exact mm24 | exact mm25 | exact mm26 | exact mm27 | exact mm28 | exact mm29 | exact mm30 | exact mm31 | exact mm32 | exact mm33 | exact mm34 | exact mm35 | exact mm36 | exact mm37 | exact mm38 | exact mm39 | exact mm40 | exact mm41 | exact mm42 | exact mm43 | exact mm44 | exact mm45 | exact mm46 | exact mm47))
  (k_with "MYB" => (first | (with_reducible refine bf0 ?_) | (with_reducible refine bg0 ?_) | (with_reducible refine bf1 ?_) | (with_reducible refine bg1 ?_) | (with_reducible refine bf2 ?_) | (with_reducible refine bg2 ?_) | (with_reducible refine bf3 ?_) | (with_reducible refine bg3 ?_) | (with_reducible refine bf4 ?_) | (with_reducible refine bg4 ?_) | (with_reducible refine bf5 ?_) | (with_reducible refine bg5 ?_) | (with_reducible refine bf6 ?_) | (with_reducible refine bg6 ?_) | (with_reducible refine bf7 ?_) | (with_reducible refine bg7 ?_) | (with_reducible refine bf8 ?_) | (with_reducible refine bg8 ?_) | (with_reducible refine bf9 ?_) | (with_reducible refine bg9 ?_) | (with_reducible refine bf10 ?_) | (with_reducible refine bg10 ?_) | (with_reducible refine bf11 ?_) | (with_reducible refine bg11 ?_)); k_extra "MYM")
  (k_with "k_mem!" => k_extra "MYM")
  (k_with "k_all!" => exact ltS_all (by with_reducible assumption))
  (k_with "k_ne!" => (refine neN ?_; (try dsimp only); first | (refine' allLt_ne ?L_z ?M_z; (case L_z => with_reducible assumption); (case M_z => k_extra "MYM")) | (refine' lt_neS ?L_z ?M_z; (case L_z => with_reducible assumption); (case M_z => k_extra "MYM")) | (refine' aps_ne ?A_z ?B_z; (case A_z => with_reducible assumption); (case B_z => k_extra "MYB")) | (refine' lt_ne1 ?L_z ?M_z; (case L_z => with_reducible assumption); (case M_z => k_extra "MYM")) | (refine' lt_neS1 ?L_z ?M_z; (case L_z => with_reducible assumption); (case M_z => k_extra "MYM")) | exact ne_lt (by with_reducible assumption) | exact (ne_lt (by with_reducible assumption)).symm | (refine' allLt_ne2 ?e_z ?L_z ?M_z; (case e_z => with_reducible assumption); (case L_z => with_reducible assumption); (case M_z => k_extra "MYM")) | (refine' (allLt_ne2 ?e_z ?L_z ?M_z).symm; (case e_z => with_reducible assumption); (case L_z => with_reducible assumption); (case M_z => k_extra "MYM")) | exact AllAp.get (by with_reducible assumption) (by k_mem) | exact (AllAp.get (by with_reducible assumption) (by k_mem)).symm | fail "MY ne"))
  (k_with "MY step" => first | (k_unfold; (try dsimp only)) | (k_end; wrow_close) | walk1 | (dsimp only; walk1) | (leave1; walk_say "STEP leave1"; try dsimp only) | fail "no step")
  (k_with "MY sub" => exact fun _ h => List.mem_append_left _ h)
  trivial
section
variable {w : World} {mean : ExcName → Option Value} {mg mb : Str → Option Value} {A₀ : Around} {dp un : Nat} {gd : Option (List Code)} {base g : Heap} {outer : List Env} {L : Addr} {m : Str → Option Value} {env : Env} {s : Shared} {E : Value → Shared → Prop} {Q : Value → Shared → Prop}
    {pot : Addr} {a b : Int} {ta tb : Tok} {news : List (Addr × Obj)} {gf : Obj → List (Addr × Obj)}
def RightP (pot : Addr) (v : Value) (h' : Heap) : Prop := v = .bool true ∧ ∃ a' b' ta' tb', PotOk a' b' ∧ h'.get? pot = some (potObj a' b' ta' tb')
theorem call_right {f : Value} (spec : ∀ g', Gd w mean mg mb ⟨none, dp, some (env :: outer), gd, un⟩ base (env :: outer) g' → Ext g' s.heap → NewsG g' s.heap [(pot, potObj a b ta tb)] → codeAny (model PR w) ⟨none, dp, some (env :: outer), gd, un⟩ (.call f ⟨[.ref pot], []⟩) (Done s g' (RightP pot)) s)
    (B : Below A₀ base outer g) (X : (Mine.hd0.heap_1_1 w.params).In g) (T : Top PV LO mean mg mb g) (F : Fr g L s.heap m) (N : News g L s.heap news) (U : UpdF pot (potObj a b ta tb) news gf)
    (hf : env.frame = some L) (hke : env.scope.kind = .function)
    (k : ∀ h' tk a' b' ta' tb', Fr g L h' m → News g L h' (gf (potObj a' b' ta' tb')) → PotOk a' b' → Q (.bool true) { s with heap := h', toks := tk }) :
    wpAny (model PR w) ⟨none, dp, some (env :: outer), gd, un⟩ (call f [.ref pot]) Q E s := by
  refine callH (P := fun _ => RightP pot) [(pot, potObj a b ta tb)] B X T F rfl hf hke (newsOne N U) (fun g' G hx N' _ => spec g' G hx N') ?_
  rintro v h' tk g' F' keep _ ⟨rfl, a', b', ta', tb', h2, hp⟩
  exact k h' tk a' b' ta' tb' F' (newsAfter N U keep hp) h2
theorem call_chan (B : Below A₀ base outer g) (X : (Mine.hd0.heap_1_1 w.params).In g) (T : Top PV LO mean mg mb g) (F : Fr g L s.heap m) (N : News g L s.heap news) (U : UpdF pot (potObj a b ta tb) news gf)
    (hf : env.frame = some L) (hke : env.scope.kind = .function) (hroom : dp ≤ 800) (hun : un ≤ 8000) (ok : PotOk a b)
    (k : ∀ h' tk a' b' ta' tb', Fr g L h' m → News g L h' (gf (potObj a' b' ta' tb')) → PotOk a' b' → Q (.bool true) { s with heap := h', toks := tk }) :
    wpAny (model PR w) ⟨none, dp, some (env :: outer), gd, un⟩ (call (.ref 749) [.ref pot]) Q E s :=
  call_right (fun _ G hx N' => chan_spec G hx hroom hun ok N') B X T F N U hf hke k
theorem call_rows (B : Below A₀ base outer g) (X : (Mine.hd0.heap_1_1 w.params).In g) (T : Top PV LO mean mg mb g) (F : Fr g L s.heap m) (N : News g L s.heap news) (U : UpdF pot (potObj a b ta tb) news gf)
    (hf : env.frame = some L) (hke : env.scope.kind = .function) (hroom : dp ≤ 800) (hun : un ≤ 8000) (ok : PotOk a b)
    (k : ∀ h' tk a' b' ta' tb', Fr g L h' m → News g L h' (gf (potObj a' b' ta' tb')) → PotOk a' b' → Q (.bool true) { s with heap := h', toks := tk }) :
    wpAny (model PR w) ⟨none, dp, some (env :: outer), gd, un⟩ (call (.ref 754) [.ref pot]) Q E s :=
  call_right (fun _ G hx N' => rows_spec G hx hroom hun ok N') B X T F N U hf hke k
theorem call_gates (B : Below A₀ base outer g) (X : (Mine.hd0.heap_1_1 w.params).In g) (T : Top PV LO mean mg mb g) (F : Fr g L s.heap m) (N : News g L s.heap news) (U : UpdF pot (potObj a b ta tb) news gf)
    (hf : env.frame = some L) (hke : env.scope.kind = .function) (hroom : dp ≤ 800) (hun : un ≤ 8000) (ok : PotOk a b)
    (k : ∀ h' tk, Fr g L h' m → Q (.bool true) { s with heap := h', toks := tk }) :
    wpAny (model PR w) ⟨none, dp, some (env :: outer), gd, un⟩ (call (.ref 759) [.ref pot]) Q E s := by
  refine callH (P := fun _ v _ => v = .bool true) [(pot, potObj a b ta tb)] B X T F rfl hf hke (newsOne N U) (fun g' G hx N' _ => gates_spec G hx hroom hun ok N') ?_
  rintro v h' tk g' F' keep _ rfl
  exact k h' tk F'
end
def rowD (i1 i2 i3 : Int) (s : Dat) (c : String) : Dat := .tuple [.tuple [.int i1, .int i2, .int i3, s], .str (Str.ofString c)]
def lawGs : List (Dat × Option Int) := [(rowD 1 5 0 (.int 7) "a", some 7), (rowD 2 6 1 (.int 7) "b", some 7), (rowD 3 6 0 .none "c", none), (rowD 3 6 0 .none "d", none)]
theorem lawGs_once : (onceK lawGs).1 = [rowD 1 5 0 (.int 7) "a", rowD 3 6 0 .none "c", rowD 3 6 0 .none "d"] := by rfl
theorem ok_a : PyData.strOk (Str.ofString "a") = true := by decide +kernel
theorem ok_b : PyData.strOk (Str.ofString "b") = true := by decide +kernel
theorem ok_c : PyData.strOk (Str.ofString "c") = true := by decide +kernel
theorem ok_d : PyData.strOk (Str.ofString "d") = true := by decide +kernel
theorem pair_law {tl : List (Addr × Obj)} {p o : Addr} {n n' : Nat} {i1 i2 i3 : Int} {t1 t2 t3 t : Tok} {sv : Value} {c : String} (hp : (p, tupOf #[.ref o, .str (Str.ofString c) t] n) ∈ tl) (ho : (o, tupOf #[.int i1 t1, .int i2 t2, .int i3 t3, sv] n') ∈ tl) (hs : isSel sv = true) (hc : PyData.strOk (Str.ofString c) = true) :
    IsPair tl (.ref p) (rowD i1 i2 i3 (oDat sv) c, oSel sv) :=
  ⟨p, o, _, _, _, _, sv, n, n', _, _, _, _, rfl, hp, ho, hs, .int _ _, .int _ _, .int _ _, .str _ _, rfl, rfl, rfl, rfl, rfl, hc⟩
theorem rowD_ok {i1 i2 i3 : Int} {s : Dat} {c : String} (hs : kqdOk 6 s = true) (hc : PyData.strOk (Str.ofString c) = true) : kqdOk 8 (rowD i1 i2 i3 s c) = true := by
  show ([.tuple [.int i1, .int i2, .int i3, s], .str (Str.ofString c)] : List Dat).all (kqdOk 7) = true
  simp only [List.all_cons, List.all_nil, Bool.and_true]
  rw [show kqdOk 7 (.str (Str.ofString c)) = true from hc, Bool.and_true]
  show ([.int i1, .int i2, .int i3, s] : List Dat).all (kqdOk 6) = true
  simp only [List.all_cons, List.all_nil, Bool.and_true, hs]
  rfl
theorem law_ok : ∀ d ∈ [rowD 1 5 0 (.int 7) "a", rowD 3 6 0 .none "c", rowD 3 6 0 .none "d"], kqdOk 8 d = true :=
  allc ⟨rowD_ok rfl ok_a, allc ⟨rowD_ok rfl ok_c, allc ⟨rowD_ok rfl ok_d, List.forall_mem_nil _⟩⟩⟩
theorem row_dat {tl : List (Addr × Obj)} {p o : Addr} {n n' : Nat} {i1 i2 i3 : Int} {t1 t2 t3 t : Tok} {sv : Value} {c : String} (hp : (p, tupOf #[.ref o, .str (Str.ofString c) t] n) ∈ tl) (ho : (o, tupOf #[.int i1 t1, .int i2 t2, .int i3 t3, sv] n') ∈ tl) (hs : isSel sv = true) :
    DatIn tl (.ref p) (rowD i1 i2 i3 (oDat sv) c) :=
  .tuple (vs := [.ref o, .str (Str.ofString c) t]) hp (.cons (.tuple (vs := [.int i1 t1, .int i2 t2, .int i3 t3, sv]) ho (.cons (.int _ _) (.cons (.int _ _) (.cons (.int _ _) (.cons (sel_dat hs) .nil))))) (.cons (.str _ _) .nil))
theorem pair_int {tl : List (Addr × Obj)} {p o : Addr} {n n' : Nat} {i1 i2 i3 i : Int} {t1 t2 t3 t4 t : Tok} {c : String} (hp : (p, tupOf #[.ref o, .str (Str.ofString c) t] n) ∈ tl) (ho : (o, tupOf #[.int i1 t1, .int i2 t2, .int i3 t3, .int i t4] n') ∈ tl) (hc : PyData.strOk (Str.ofString c) = true) :
    IsPair tl (.ref p) (rowD i1 i2 i3 (.int i) c, some i) := pair_law hp ho rfl hc
theorem pair_none {tl : List (Addr × Obj)} {p o : Addr} {n n' : Nat} {i1 i2 i3 : Int} {t1 t2 t3 t : Tok} {c : String} (hp : (p, tupOf #[.ref o, .str (Str.ofString c) t] n) ∈ tl) (ho : (o, tupOf #[.int i1 t1, .int i2 t2, .int i3 t3, .none] n') ∈ tl) (hc : PyData.strOk (Str.ofString c) = true) :
    IsPair tl (.ref p) (rowD i1 i2 i3 .none c, none) := pair_law hp ho rfl hc
theorem dat_int {tl : List (Addr × Obj)} {p o : Addr} {n n' : Nat} {i1 i2 i3 i : Int} {t1 t2 t3 t4 t : Tok} {c : String} (hp : (p, tupOf #[.ref o, .str (Str.ofString c) t] n) ∈ tl) (ho : (o, tupOf #[.int i1 t1, .int i2 t2, .int i3 t3, .int i t4] n') ∈ tl) :
    DatIn tl (.ref p) (rowD i1 i2 i3 (.int i) c) := row_dat hp ho rfl
theorem dat_none {tl : List (Addr × Obj)} {p o : Addr} {n n' : Nat} {i1 i2 i3 : Int} {t1 t2 t3 t : Tok} {c : String} (hp : (p, tupOf #[.ref o, .str (Str.ofString c) t] n) ∈ tl) (ho : (o, tupOf #[.int i1 t1, .int i2 t2, .int i3 t3, .none] n') ∈ tl) :
    DatIn tl (.ref p) (rowD i1 i2 i3 .none c) := row_dat hp ho rfl
theorem memR {α : Type} {a : α} {as bs : List α} (h : List.Mem a bs) : List.Mem a (as ++ bs) := List.mem_append_right as h
example : True := by
  (k_with "k_mem!" => (first | (with_reducible refine List.mem_append_right _ ?_) | (with_reducible refine memR ?_)); k_mem)
  (k_with "MY pot" => first | with_reducible assumption | (refine' PotOk.mk ?_ ?_ ?_ <;> first | omega | exact Int.add_nonneg (Int.fmod_nonneg_of_pos _ (by decide)) (by decide) | exact Int.lt_of_lt_of_le (Int.add_lt_add_right (Int.fmod_lt_of_pos _ (by decide)) _) (by decide)))
  (k_with "call ref!" => (k_here; (with_reducible show wpAny _ _ (call (Value.ref 749) _) _ _ _); k_dflt (refine' call_chan ?k1_z ?k2_z ?k3_z ?k4_z ?k5_z ?U_z ?hf_z ?hk_z ?hr_z ?hu_z ?p1_z ?_; (case hf_z => exact rfl); (case hk_z => exact rfl); (case k1_z => k_asm); (case k2_z => k_asm); (case k3_z => k_asm); (case k4_z => k_asm); (case k5_z => k_asm); (case U_z => k_updF); (case hr_z => exact Nat.le_of_ble_eq_true rfl); (case hu_z => exact Nat.le_of_ble_eq_true rfl); (case p1_z => k_extra "MY pot")); intro h' tk' a' b' ta' tb' F' N' ok'; (try dsimp only at N'); (try k_sweep)))
  (k_with "call ref!" => (k_here; (with_reducible show wpAny _ _ (call (Value.ref 754) _) _ _ _); k_dflt (refine' call_rows ?k1_z ?k2_z ?k3_z ?k4_z ?k5_z ?U_z ?hf_z ?hk_z ?hr_z ?hu_z ?p1_z ?_; (case hf_z => exact rfl); (case hk_z => exact rfl); (case k1_z => k_asm); (case k2_z => k_asm); (case k3_z => k_asm); (case k4_z => k_asm); (case k5_z => k_asm); (case U_z => k_updF); (case hr_z => exact Nat.le_of_ble_eq_true rfl); (case hu_z => exact Nat.le_of_ble_eq_true rfl); (case p1_z => k_extra "MY pot")); intro h' tk' a' b' ta' tb' F' N' ok'; (try dsimp only at N'); (try k_sweep)))
  (k_with "call ref!" => (k_here; (with_reducible show wpAny _ _ (call (Value.ref 759) _) _ _ _); k_dflt (refine' call_gates ?k1_z ?k2_z ?k3_z ?k4_z ?k5_z ?U_z ?hf_z ?hk_z ?hr_z ?hu_z ?p1_z ?_; (case hf_z => exact rfl); (case hk_z => exact rfl); (case k1_z => k_asm); (case k2_z => k_asm); (case k3_z => k_asm); (case k4_z => k_asm); (case k5_z => k_asm); (case U_z => k_updF); (case hr_z => exact Nat.le_of_ble_eq_true rfl); (case hu_z => exact Nat.le_of_ble_eq_true rfl); (case p1_z => k_extra "MY pot")); intro h' tk' F'))
  trivial

end
theorem all_holds.tw10150257078369531504 : True := trivial
theorem all_holds.tw2899909347043439216 : True := trivial
theorem all_holds.tw18164795900465507600 : True := trivial
theorem all_holds.tw2987718017016334608 : True := trivial
theorem all_holds.tw11230118047189593808 : True := trivial
theorem all_holds.tw10964013580592649936 : True := trivial
theorem all_holds.tw17425132412782552816 : True := trivial
theorem all_holds.tw4866905316675354032 : True := trivial
theorem all_holds.tw15120789043745984048 : True := trivial
theorem all_holds.tw16967418348821436368 : True := trivial
theorem all_holds.tw16342287312613767152 : True := trivial
theorem all_holds.tw9136635753298984944 : True := trivial
theorem all_holds.tw16566275218953034384 : True := trivial
theorem all_holds.tw16888077617236618928 : True := trivial
theorem all_holds.tw17987951228712184912 : True := trivial
theorem all_holds.tw15830120963303576656 : True := trivial
theorem all_holds.tw4389904437010578544 : True := trivial
theorem all_holds.tw9769347359570308912 : True := trivial
theorem all_holds.tw16191878525401727792 : True := trivial
theorem all_holds.tw18157937899378565936 : True := trivial
theorem all_holds.tw17456713590341486800 : True := trivial
theorem all_holds.tw9633214040806789360 : True := trivial
theorem all_holds.tw2542750836318313712 : True := trivial
theorem all_holds.tw5701160906135755664 : True := trivial
theorem all_holds.tw5088447903320854416 : True := trivial
theorem all_holds.tw11975696863916271632 : True := trivial
theorem all_holds.tw16891746744134464560 : True := trivial
theorem all_holds.tw2844575333774794192 : True := trivial
theorem all_holds.tw1235976519563025872 : True := trivial
theorem all_holds.tw15881794033310697968 : True := trivial
theorem all_holds.tw18111452185668571025 : True := trivial
theorem all_holds.tw1388357905827547057 : True := trivial
theorem all_holds.tw161702468095140785 : True := trivial
theorem all_holds.tw3526543668382667697 : True := trivial
theorem all_holds.tw714689102413964881 : True := trivial
theorem all_holds.tw15243560841863388785 : True := trivial
theorem all_holds.tw2683585929351796753 : True := trivial
theorem all_holds.tw12777810176128546833 : True := trivial
theorem all_holds.tw11093436359804819505 : True := trivial
theorem all_holds.tw5262079213113135857 : True := trivial
theorem all_holds.tw3623300360469289137 : True := trivial
theorem all_holds.tw14157767205711320913 : True := trivial
theorem all_holds.tw9333406356474913617 : True := trivial
theorem all_holds.tw3516132868730030961 : True := trivial
theorem all_holds.tw2558894553860910353 : True := trivial
theorem all_holds.tw5612402317991139281 : True := trivial
theorem all_holds.tw9519071540860185553 : True := trivial
theorem all_holds.tw9500398138354137489 : True := trivial
theorem all_holds.tw8004868698266225073 : True := trivial
theorem all_holds.tw14583027299307849137 : True := trivial
theorem all_holds.tw5549538554663193681 : True := trivial
theorem all_holds.tw14891068648042545265 : True := trivial
theorem all_holds.tw8939493591597968497 : True := trivial
theorem all_holds.tw900780751827288593 : True := trivial
theorem all_holds.tw14623676863627043345 : True := trivial
theorem all_holds.tw8349416040171915473 : True := trivial
theorem all_holds.tw6434753943861277937 : True := trivial
theorem all_holds.tw11008496910352798353 : True := trivial
theorem all_holds.tw11581543618621200017 : True := trivial
theorem all_holds.tw17114266828195689105 : True := trivial
theorem all_holds.tw17614734381950139025 : True := trivial
theorem all_holds.tw17651832960183170737 : True := trivial
theorem all_holds.tw3216382255990898353 : True := trivial
theorem all_holds.tw12395454869368708465 : True := trivial
theorem all_holds.tw4297599894664972049 : True := trivial
theorem all_holds.tw7499981635143797521 : True := trivial
theorem all_holds.tw13064262881994117905 : True := trivial
theorem all_holds.tw17215474739434803665 : True := trivial
theorem all_holds.tw14105429097530297202 : True := trivial
theorem all_holds.tw4565105773365894706 : True := trivial
theorem all_holds.tw16561226813068458994 : True := trivial
theorem all_holds.tw13186217795159697042 : True := trivial
theorem all_holds.tw2149253983184857746 : True := trivial
theorem all_holds.tw11342534452292575314 : True := trivial
theorem all_holds.tw18101175885328221266 : True := trivial
theorem all_holds.tw18106367841181157138 : True := trivial
theorem all_holds.tw10026332181368481682 : True := trivial
theorem all_holds.tw3757614915605641106 : True := trivial
theorem all_holds.tw17631210342493697362 : True := trivial
theorem all_holds.tw686299176215203154 : True := trivial
theorem all_holds.tw6296730167345704274 : True := trivial
theorem all_holds.tw584710756258799666 : True := trivial
theorem all_holds.tw17442262991746490834 : True := trivial
theorem all_holds.tw5618954821388150930 : True := trivial
theorem all_holds.tw15627802454798831762 : True := trivial
theorem all_holds.tw7295975347644614226 : True := trivial
theorem all_holds.tw17634819419149597970 : True := trivial
theorem all_holds.tw1359830689912364338 : True := trivial
theorem all_holds.tw13429952888778000114 : True := trivial
theorem all_holds.tw12319391715097185010 : True := trivial
theorem all_holds.tw3195603328231837426 : True := trivial
theorem all_holds.tw8716497410155586290 : True := trivial
theorem all_holds.tw86850983525488018 : True := trivial
theorem all_holds.tw2687656671314354610 : True := trivial
theorem all_holds.tw12344417363110536626 : True := trivial
theorem all_holds.tw3016025009498502578 : True := trivial
theorem all_holds.tw7503920415627454290 : True := trivial
theorem all_holds.tw18225902883236424179 : True := trivial
theorem all_holds.tw11569689057238258291 : True := trivial
theorem all_holds.tw18370071322497121299 : True := trivial
theorem all_holds.tw15976945421130570771 : True := trivial
theorem all_holds.tw8756318906279097075 : True := trivial
theorem all_holds.tw6696084774933582995 : True := trivial
theorem all_holds.tw6457418453750074547 : True := trivial
theorem all_holds.tw10744801533685947251 : True := trivial
theorem all_holds.tw7380410261476920179 : True := trivial
theorem all_holds.tw6061862595942873363 : True := trivial
theorem all_holds.tw5834636391437014995 : True := trivial
theorem all_holds.tw17296630440794438643 : True := trivial
theorem all_holds.tw4181127276432613779 : True := trivial
theorem all_holds.tw1363576288093120915 : True := trivial
theorem all_holds.tw16658917370186742867 : True := trivial
theorem all_holds.tw1301817207661825107 : True := trivial
theorem all_holds.tw2503958181218063475 : True := trivial
theorem all_holds.tw11376813040197786131 : True := trivial
theorem all_holds.tw13454294412408352275 : True := trivial
theorem all_holds.tw11532225143389286963 : True := trivial
theorem all_holds.tw11085308911923893491 : True := trivial
theorem all_holds.tw3535256463413961971 : True := trivial
theorem all_holds.tw13656918933949615795 : True := trivial
theorem all_holds.tw10311883064118269299 : True := trivial
theorem all_holds.tw14846750026445226355 : True := trivial
theorem all_holds.tw3423504133115008819 : True := trivial
theorem all_holds.tw3660379977637576499 : True := trivial
theorem all_holds.tw14716134772890426835 : True := trivial
theorem all_holds.tw15701169669097810387 : True := trivial
theorem all_holds.tw14619040251064675188 : True := trivial
theorem all_holds.tw5640114586365256212 : True := trivial
theorem all_holds.tw4114556695514244660 : True := trivial
theorem all_holds.tw17861148295375298100 : True := trivial
theorem all_holds.tw11264179287864628180 : True := trivial
theorem all_holds.tw15158312764140456596 : True := trivial
theorem all_holds.tw6565546167059890836 : True := trivial
theorem all_holds.tw5167567445259662004 : True := trivial
theorem all_holds.tw1636570107457499252 : True := trivial
theorem all_holds.tw3478998770114436884 : True := trivial
theorem all_holds.tw15235040738882407220 : True := trivial
theorem all_holds.tw15827965711526420372 : True := trivial
theorem all_holds.tw16215372994092634004 : True := trivial
theorem all_holds.tw75393801440891828 : True := trivial
theorem all_holds.tw14673780157580879796 : True := trivial
theorem all_holds.tw8495327355765417300 : True := trivial
theorem all_holds.tw17196308540094675316 : True := trivial
theorem all_holds.tw15507515029065198612 : True := trivial
theorem all_holds.tw17711422447965617204 : True := trivial
theorem all_holds.tw3928746810625567188 : True := trivial
theorem all_holds.tw13306525660351153620 : True := trivial
theorem all_holds.tw6031284797397281268 : True := trivial
theorem all_holds.tw4608335737675303060 : True := trivial
theorem all_holds.tw14040802888234559668 : True := trivial
theorem all_holds.tw11036282523022932564 : True := trivial
theorem all_holds.tw4380728998570845780 : True := trivial
theorem all_holds.tw13746181482664250644 : True := trivial
theorem all_holds.tw12267304743509998292 : True := trivial
theorem all_holds.tw14233201387438367444 : True := trivial
theorem all_holds.tw4418516063271515860 : True := trivial
theorem all_holds.tw15834438274290799348 : True := trivial
theorem all_holds.tw7123599240432061172 : True := trivial
theorem all_holds.tw8333146095432640916 : True := trivial
theorem all_holds.tw208698657782721972 : True := trivial
theorem all_holds.tw10593545967968534356 : True := trivial
theorem all_holds.tw11439545053371938293 : True := trivial
theorem all_holds.tw8371566313854922229 : True := trivial
theorem all_holds.tw4579543579491637749 : True := trivial
theorem all_holds.tw11294297757542576053 : True := trivial
theorem all_holds.tw16143367956621454933 : True := trivial
theorem all_holds.tw8071775564095560725 : True := trivial
theorem all_holds.tw10172241840766949429 : True := trivial
theorem all_holds.tw15941257831433459413 : True := trivial
theorem all_holds.tw11535883260970811125 : True := trivial
theorem all_holds.tw17962862298413058805 : True := trivial
theorem all_holds.tw12746338275091639029 : True := trivial
theorem all_holds.tw4469204167771121813 : True := trivial
theorem all_holds.tw13788530004249366709 : True := trivial
theorem all_holds.tw16035998358685455541 : True := trivial
theorem all_holds.tw2191707439904363349 : True := trivial
theorem all_holds.tw17975288861764178773 : True := trivial
theorem all_holds.tw1674658252337553685 : True := trivial
theorem all_holds.tw3176517060632101845 : True := trivial
theorem all_holds.tw1494443157333344213 : True := trivial
theorem all_holds.tw17022664400822411221 : True := trivial
theorem all_holds.tw9454085503416269205 : True := trivial
theorem all_holds.tw10144199058680005717 : True := trivial
theorem all_holds.tw5436667370205060181 : True := trivial
theorem all_holds.tw14829712386768992373 : True := trivial
theorem all_holds.tw8093528934366286357 : True := trivial
theorem all_holds.tw1025857336305287381 : True := trivial
theorem all_holds.tw16241012142183630037 : True := trivial
theorem all_holds.tw11668743248843619989 : True := trivial
theorem all_holds.tw8335018154204608181 : True := trivial
theorem all_holds.tw16012785104918238677 : True := trivial
theorem all_holds.tw3559178283374859798 : True := trivial
theorem all_holds.tw10370668209976779990 : True := trivial
theorem all_holds.tw8908737573118926134 : True := trivial
theorem all_holds.tw7777682108732903190 : True := trivial
theorem all_holds.tw16570234964159525334 : True := trivial
theorem all_holds.tw13918548821971420630 : True := trivial
theorem all_holds.tw8208825878483152790 : True := trivial
theorem all_holds.tw11664799352826410902 : True := trivial
theorem all_holds.tw6261631801639251958 : True := trivial
theorem all_holds.tw10243389305213119510 : True := trivial
theorem all_holds.tw9334313724415806166 : True := trivial
theorem all_holds.tw14392074680628683478 : True := trivial
theorem all_holds.tw17274716820653849398 : True := trivial
theorem all_holds.tw15487915901307463510 : True := trivial
theorem all_holds.tw14171576172515062614 : True := trivial
theorem all_holds.tw6249428983489540374 : True := trivial
theorem all_holds.tw4971965452366108598 : True := trivial
theorem all_holds.tw5626431564886511542 : True := trivial
theorem all_holds.tw11591390301340867542 : True := trivial
theorem all_holds.tw15123349323905696118 : True := trivial
theorem all_holds.tw3309269813574344054 : True := trivial
theorem all_holds.tw5985671883857794454 : True := trivial
theorem all_holds.tw6153801664244325430 : True := trivial
theorem all_holds.tw12282121509207206390 : True := trivial
theorem all_holds.tw9019385011542585495 : True := trivial
theorem all_holds.tw6678603743126375991 : True := trivial
theorem all_holds.tw6627015143800105207 : True := trivial
theorem all_holds.tw4883463245002373367 : True := trivial
theorem all_holds.tw16744785898377486583 : True := trivial
theorem all_holds.tw18170862690757913847 : True := trivial
theorem all_holds.tw125849343286128919 : True := trivial
theorem all_holds.tw5258068658557024663 : True := trivial
theorem all_holds.tw15555648355014205847 : True := trivial
theorem all_holds.tw10877735561582144343 : True := trivial
theorem all_holds.tw15114792175232501239 : True := trivial
theorem all_holds.tw3831059734720934423 : True := trivial
theorem all_holds.tw14859741638210037719 : True := trivial
theorem all_holds.tw14085824075015549591 : True := trivial
theorem all_holds.tw11625129339072518807 : True := trivial
theorem all_holds.tw10011797296749818519 : True := trivial
theorem all_holds.tw15244294461418296055 : True := trivial
theorem all_holds.tw777889028450097911 : True := trivial
theorem all_holds.tw8498879082465781527 : True := trivial
theorem all_holds.tw7516553486250734775 : True := trivial
theorem all_holds.tw10956702200079784119 : True := trivial
theorem all_holds.tw5265608416780786871 : True := trivial
theorem all_holds.tw14185494485118363831 : True := trivial
theorem all_holds.tw15286884807426486487 : True := trivial
theorem all_holds.tw17940749473541953431 : True := trivial
theorem all_holds.tw17833602431976685879 : True := trivial
theorem all_holds.tw10139824610443814231 : True := trivial
theorem all_holds.tw1975137045048951127 : True := trivial
theorem all_holds.tw13095456298770314231 : True := trivial
theorem all_holds.tw17257654919762229271 : True := trivial
theorem all_holds.tw17604478318041793559 : True := trivial
theorem all_holds.tw9978764065809079319 : True := trivial
theorem all_holds.tw7283866982988477879 : True := trivial
theorem all_holds.tw9192449470159273399 : True := trivial
theorem all_holds.tw3326110804925346328 : True := trivial
theorem all_holds.tw5616608916563359960 : True := trivial
theorem all_holds.tw15374504133247715544 : True := trivial
theorem all_holds.tw13216221642798678680 : True := trivial
theorem all_holds.tw1382050715259022648 : True := trivial
theorem all_holds.tw16731695402395955544 : True := trivial
theorem all_holds.tw5849254777548898648 : True := trivial
theorem all_holds.tw7847971262874131800 : True := trivial
theorem all_holds.tw5150027149277534904 : True := trivial
theorem all_holds.tw1592803753005158104 : True := trivial
theorem all_holds.tw12281714037419821784 : True := trivial
theorem all_holds.tw6279005827603922040 : True := trivial
theorem all_holds.tw9304140632173258904 : True := trivial
theorem all_holds.tw11585792345728701592 : True := trivial
theorem all_holds.tw9053297934206197912 : True := trivial
theorem all_holds.tw5818909358468415288 : True := trivial
theorem all_holds.tw15634810663089674040 : True := trivial
theorem all_holds.tw18020596081384632152 : True := trivial
theorem all_holds.tw3647462877590211416 : True := trivial
theorem all_holds.tw4243520271682987256 : True := trivial
theorem all_holds.tw16186806154152423704 : True := trivial
theorem all_holds.tw13539050448466235320 : True := trivial
theorem all_holds.tw8922175674621621176 : True := trivial
theorem all_holds.tw2657679297346063320 : True := trivial
theorem all_holds.tw17917707006218130392 : True := trivial
theorem all_holds.tw2572453714908187608 : True := trivial
theorem all_holds.tw16781664507514267608 : True := trivial
theorem all_holds.tw12581784444034232376 : True := trivial
theorem all_holds.tw12144233520654066776 : True := trivial
theorem all_holds.tw14950336636314569816 : True := trivial
theorem all_holds.tw11901404900997669433 : True := trivial
theorem all_holds.tw4766854701860370009 : True := trivial
theorem all_holds.tw7110806249330539097 : True := trivial
theorem all_holds.tw16149086232297503001 : True := trivial
theorem all_holds.tw17056756455501733145 : True := trivial
theorem all_holds.tw17657051173875292857 : True := trivial
theorem all_holds.tw14342052832511177081 : True := trivial
theorem all_holds.tw18435618093222102393 : True := trivial
theorem all_holds.tw13714443762132710201 : True := trivial
theorem all_holds.tw15532482300690941753 : True := trivial
theorem all_holds.tw7829457524148730361 : True := trivial
theorem all_holds.tw15605873100072233465 : True := trivial
theorem all_holds.tw11104675135844717081 : True := trivial
theorem all_holds.tw12459799390881849305 : True := trivial
theorem all_holds.tw4235803423380698073 : True := trivial
theorem all_holds.tw13132282739797873273 : True := trivial
theorem all_holds.tw15688065077182203513 : True := trivial
theorem all_holds.tw8188351179226808377 : True := trivial
theorem all_holds.tw5333337183469981753 : True := trivial
theorem all_holds.tw15920724342437036121 : True := trivial
theorem all_holds.tw10080179694863729433 : True := trivial
theorem all_holds.tw4077979080645316793 : True := trivial
theorem all_holds.tw15181074276256079737 : True := trivial
theorem all_holds.tw10718203287613678457 : True := trivial
theorem all_holds.tw12397765934662115641 : True := trivial
theorem all_holds.tw11950252263844785177 : True := trivial
theorem all_holds.tw12975389902697607193 : True := trivial
theorem all_holds.tw15504823996147859481 : True := trivial
theorem all_holds.tw6479041124244783642 : True := trivial
theorem all_holds.tw7964614754933231834 : True := trivial
theorem all_holds.tw3339940774925017722 : True := trivial
theorem all_holds.tw14790649182457825946 : True := trivial
theorem all_holds.tw5185815051704452762 : True := trivial
theorem all_holds.tw14230131378527205114 : True := trivial
theorem all_holds.tw10384110934569528762 : True := trivial
theorem all_holds.tw18019170694096613850 : True := trivial
theorem all_holds.tw2270608445396722138 : True := trivial
theorem all_holds.tw11510265696633088602 : True := trivial
theorem all_holds.tw6048665733187599354 : True := trivial
theorem all_holds.tw16216686985919137818 : True := trivial
theorem all_holds.tw9708382355239584442 : True := trivial
theorem all_holds.tw12090610536808134778 : True := trivial
theorem all_holds.tw8480437137151398746 : True := trivial
theorem all_holds.tw10175569377421951226 : True := trivial
theorem all_holds.tw3985893267363427578 : True := trivial
theorem all_holds.tw17251596455583750426 : True := trivial
theorem all_holds.tw7310226322107787194 : True := trivial
theorem all_holds.tw8794845811101991866 : True := trivial
theorem all_holds.tw15093339510278165882 : True := trivial
theorem all_holds.tw7553491246593829242 : True := trivial
theorem all_holds.tw11231404016657839162 : True := trivial
theorem all_holds.tw17931754711171414106 : True := trivial
theorem all_holds.tw16521891120373413978 : True := trivial
theorem all_holds.tw7545004374311374330 : True := trivial
theorem all_holds.tw10051206938755394043 : True := trivial
theorem all_holds.tw14657421921705306203 : True := trivial
theorem all_holds.tw14023211287400283899 : True := trivial
theorem all_holds.tw17973666188670933755 : True := trivial
theorem all_holds.tw8552623338254136059 : True := trivial
theorem all_holds.tw5979298669631624987 : True := trivial
theorem all_holds.tw11077536285811886299 : True := trivial
theorem all_holds.tw1234420007445089179 : True := trivial
theorem all_holds.tw8303493041511706939 : True := trivial
theorem all_holds.tw11903281264324572155 : True := trivial
theorem all_holds.tw17185254409632903611 : True := trivial
theorem all_holds.tw12940380703275471291 : True := trivial
theorem all_holds.tw15220884908768802267 : True := trivial
theorem all_holds.tw5732582896711713915 : True := trivial
theorem all_holds.tw9178936762776635515 : True := trivial
theorem all_holds.tw13079178824406594715 : True := trivial
theorem all_holds.tw10287765725560276571 : True := trivial
theorem all_holds.tw12776891917210751579 : True := trivial
theorem all_holds.tw12087548111736044827 : True := trivial
theorem all_holds.tw1216770746412510491 : True := trivial
theorem all_holds.tw10980507863913523931 : True := trivial
theorem all_holds.tw15724065876331941275 : True := trivial
theorem all_holds.tw15167195380832374587 : True := trivial
theorem all_holds.tw14057202556157178683 : True := trivial
theorem all_holds.tw9131244002240091963 : True := trivial
theorem all_holds.tw10346242158288349052 : True := trivial
theorem all_holds.tw16132189099945888668 : True := trivial
theorem all_holds.tw2768572019615024732 : True := trivial
theorem all_holds.tw15231014761552344668 : True := trivial
theorem all_holds.tw10371270145266788348 : True := trivial
theorem all_holds.tw15475325427151880188 : True := trivial
theorem all_holds.tw12450309462642836508 : True := trivial
theorem all_holds.tw5394583047573044956 : True := trivial
theorem all_holds.tw139799551986167932 : True := trivial
theorem all_holds.tw9170694751999761532 : True := trivial
theorem all_holds.tw6556721947872535708 : True := trivial
theorem all_holds.tw5031588179465454396 : True := trivial
theorem all_holds.tw15216392522121515868 : True := trivial
theorem all_holds.tw5427028189838532860 : True := trivial
theorem all_holds.tw12961957308898151676 : True := trivial
theorem all_holds.tw17969659920317262108 : True := trivial
theorem all_holds.tw5736753157008807196 : True := trivial
theorem all_holds.tw3351727334958979004 : True := trivial
theorem all_holds.tw2075295684305589180 : True := trivial
theorem all_holds.tw11627723866737215900 : True := trivial
theorem all_holds.tw6495384177589946780 : True := trivial
theorem all_holds.tw4328939724575139932 : True := trivial
theorem all_holds.tw4736423209109894652 : True := trivial
theorem all_holds.tw2730217685186853372 : True := trivial
theorem all_holds.tw17890422218998196764 : True := trivial
theorem all_holds.tw17626511758667394588 : True := trivial
theorem all_holds.tw16560699710764650684 : True := trivial
theorem all_holds.tw13068411661018003676 : True := trivial
theorem all_holds.tw1115465726059996796 : True := trivial
theorem all_holds.tw7190551579720741500 : True := trivial
theorem all_holds.tw1637613751129224828 : True := trivial
theorem all_holds.tw6301172650688413340 : True := trivial
theorem all_holds.tw17695135931759702684 : True := trivial
theorem all_holds.tw15170654696734897820 : True := trivial
theorem all_holds.tw15556978553464219964 : True := trivial
theorem all_holds.tw6427727416921856764 : True := trivial
theorem all_holds.tw5208225521122317756 : True := trivial
theorem all_holds.tw9120629071508546012 : True := trivial
theorem all_holds.tw5830528884614428189 : True := trivial
theorem all_holds.tw5257358534767742909 : True := trivial
theorem all_holds.tw7102686512379844573 : True := trivial
theorem all_holds.tw6356496694766820317 : True := trivial
theorem all_holds.tw13442687945117311965 : True := trivial
theorem all_holds.tw14022319610329432701 : True := trivial
theorem all_holds.tw1913415825393588317 : True := trivial
theorem all_holds.tw8203850441156146941 : True := trivial
theorem all_holds.tw14500543764189875965 : True := trivial
theorem all_holds.tw17816171693271421149 : True := trivial
theorem all_holds.tw6780287619561789309 : True := trivial
theorem all_holds.tw6750623601156869469 : True := trivial
theorem all_holds.tw4050615745517191517 : True := trivial
theorem all_holds.tw17710236918351300029 : True := trivial
theorem all_holds.tw11840600971490649533 : True := trivial
theorem all_holds.tw12935408103449285789 : True := trivial
theorem all_holds.tw12073505402331230365 : True := trivial
theorem all_holds.tw16421111734400778397 : True := trivial
theorem all_holds.tw17495133577472160349 : True := trivial
theorem all_holds.tw5978467386350483709 : True := trivial
theorem all_holds.tw3829936568727498429 : True := trivial
theorem all_holds.tw12806433889067987677 : True := trivial
theorem all_holds.tw10714825792538933981 : True := trivial
theorem all_holds.tw762122778639498973 : True := trivial
theorem all_holds.tw821029333939823325 : True := trivial
theorem all_holds.tw13385269179373207933 : True := trivial
theorem all_holds.tw5987929100621831997 : True := trivial
theorem all_holds.tw10374007252565321533 : True := trivial
theorem all_holds.tw11747105871870137149 : True := trivial
theorem all_holds.tw1199179312698704733 : True := trivial
theorem all_holds.tw17708875577064418141 : True := trivial
theorem all_holds.tw10412344877363252094 : True := trivial
theorem all_holds.tw9766898660046708606 : True := trivial
theorem all_holds.tw216885696735893406 : True := trivial
theorem all_holds.tw8856832041360373662 : True := trivial
theorem all_holds.tw5736174436700568574 : True := trivial
theorem all_holds.tw12340089652844558366 : True := trivial
theorem all_holds.tw1187173586057970366 : True := trivial
theorem all_holds.tw5101804316493672126 : True := trivial
theorem all_holds.tw13668616362596080798 : True := trivial
theorem all_holds.tw6515920519923762014 : True := trivial
theorem all_holds.tw16315108306404776798 : True := trivial
theorem all_holds.tw8068263972937852766 : True := trivial
theorem all_holds.tw4750552102726463326 : True := trivial
theorem all_holds.tw4151323953197819294 : True := trivial
theorem all_holds.tw13804914249933356446 : True := trivial
theorem all_holds.tw18093156315795136574 : True := trivial
theorem all_holds.tw2657003427552868862 : True := trivial
theorem all_holds.tw16409420056620980414 : True := trivial
theorem all_holds.tw6589080101160315550 : True := trivial
theorem all_holds.tw17290883681732418878 : True := trivial
theorem all_holds.tw12720644634374564158 : True := trivial
theorem all_holds.tw14552429582845022558 : True := trivial
theorem all_holds.tw12517499268095174430 : True := trivial
theorem all_holds.tw14082467138791674654 : True := trivial
theorem all_holds.tw2418721424834300350 : True := trivial
theorem all_holds.tw6616017162364426718 : True := trivial
theorem all_holds.tw5707423473668963806 : True := trivial
theorem all_holds.tw13506453588751571422 : True := trivial
theorem all_holds.tw3140533256673040927 : True := trivial
theorem all_holds.tw13396265075820027423 : True := trivial
theorem all_holds.tw6006847188576653279 : True := trivial
theorem all_holds.tw6768114781298151039 : True := trivial
theorem all_holds.tw9323731554884554399 : True := trivial
theorem all_holds.tw6072043328939727519 : True := trivial
theorem all_holds.tw13141573220440328863 : True := trivial
theorem all_holds.tw4772978867845924927 : True := trivial
theorem all_holds.tw14158115304835292223 : True := trivial
theorem all_holds.tw8297759732454935615 : True := trivial
theorem all_holds.tw3422869130372469503 : True := trivial
theorem all_holds.tw12565552059220834079 : True := trivial
theorem all_holds.tw184754075186989855 : True := trivial
theorem all_holds.tw17653470786513234111 : True := trivial
theorem all_holds.tw18398036791652117695 : True := trivial
theorem all_holds.tw3457447090320423103 : True := trivial
theorem all_holds.tw5010441419822798047 : True := trivial
theorem all_holds.tw700072478994543839 : True := trivial
theorem all_holds.tw2195299752985207135 : True := trivial
theorem all_holds.tw8932244341279039487 : True := trivial
theorem all_holds.tw6057519775076838431 : True := trivial
theorem all_holds.tw13628610999461588447 : True := trivial
theorem all_holds.tw16635105629326981599 : True := trivial
theorem all_holds.tw4275631031710764159 : True := trivial
theorem all_holds.tw2069693180270520479 : True := trivial
theorem all_holds.tw1377831180055962175 : True := trivial
theorem all_holds.tw18237517741375212095 : True := trivial
theorem all_holds.tw9898201537453352543 : True := trivial
theorem all_holds.tw12637984360260177503 : True := trivial
theorem all_holds.tw14150154305834335487 : True := trivial
theorem all_holds.tw9058497372749081279 : True := trivial
theorem all_holds.tw6483229106543440255 : True := trivial
theorem all_holds.tw1429250389780746655 : True := trivial
theorem all_holds.tw9913192693684195135 : True := trivial
theorem all_holds.tw9877882771498268511 : True := trivial
theorem all_holds.tw3745671642875166592 : True := trivial
theorem all_holds.tw16184392354735346560 : True := trivial
theorem all_holds.tw17041018369282119584 : True := trivial
theorem all_holds.tw13061706338589003328 : True := trivial
theorem all_holds.tw18381389179218104896 : True := trivial
theorem all_holds.tw9488803313291915872 : True := trivial
theorem all_holds.tw13355468971948402368 : True := trivial
theorem all_holds.tw1437288804663684800 : True := trivial
theorem all_holds.tw10206432610047077504 : True := trivial
theorem all_holds.tw5447138759565456512 : True := trivial
theorem all_holds.tw2292155494200018048 : True := trivial
theorem all_holds.tw6546312216109694112 : True := trivial
theorem all_holds.tw66788661612663968 : True := trivial
theorem all_holds.tw4077261671698349920 : True := trivial
theorem all_holds.tw2841198718826517344 : True := trivial
theorem all_holds.tw12211090622905648384 : True := trivial
theorem all_holds.tw15506897364601523456 : True := trivial
theorem all_holds.tw4201702503076501792 : True := trivial
theorem all_holds.tw12735154894021108672 : True := trivial
theorem all_holds.tw3630547427882989536 : True := trivial
theorem all_holds.tw18106571010608241632 : True := trivial
theorem all_holds.tw14634347313093751200 : True := trivial
theorem all_holds.tw1407735508856071232 : True := trivial
theorem all_holds.tw11243933569496138848 : True := trivial
theorem all_holds.tw13057164698398361088 : True := trivial
theorem all_holds.tw18270206892382454304 : True := trivial
theorem all_holds.tw17246806838859374816 : True := trivial
theorem all_holds.tw2917699062363847296 : True := trivial
theorem all_holds.tw2315618251751209632 : True := trivial
theorem all_holds.tw10963983165699262944 : True := trivial
theorem all_holds.tw5069492939648370849 : True := trivial
theorem all_holds.tw12650367567525385377 : True := trivial
theorem all_holds.tw17816919684090185921 : True := trivial
theorem all_holds.tw11148593578908391009 : True := trivial
theorem all_holds.tw1811637532387190401 : True := trivial
theorem all_holds.tw14891806504738042497 : True := trivial
theorem all_holds.tw12012619768365260065 : True := trivial
theorem all_holds.tw2433987087308937537 : True := trivial
theorem all_holds.tw18417681827581201825 : True := trivial
theorem all_holds.tw17533977286448036257 : True := trivial
theorem all_holds.tw8104276668113766817 : True := trivial
theorem all_holds.tw3037788984448141761 : True := trivial
theorem all_holds.tw13642901808374261601 : True := trivial
theorem all_holds.tw2474425535875110753 : True := trivial
theorem all_holds.tw12102353319973854081 : True := trivial
theorem all_holds.tw13144495979491811201 : True := trivial
theorem all_holds.tw6794134380066587169 : True := trivial
theorem all_holds.tw14086560985995780673 : True := trivial
theorem all_holds.tw8318402074675077697 : True := trivial
theorem all_holds.tw12554078269679551489 : True := trivial
theorem all_holds.tw4040618800973491873 : True := trivial
theorem all_holds.tw12939877259854866081 : True := trivial
theorem all_holds.tw14348199894529004641 : True := trivial
theorem all_holds.tw1647365623015824481 : True := trivial
theorem all_holds.tw10899929025847651137 : True := trivial
theorem all_holds.tw501189824605458337 : True := trivial
theorem all_holds.tw7112244900901728193 : True := trivial
theorem all_holds.tw10854254704289777601 : True := trivial
theorem all_holds.tw18156292586190642209 : True := trivial
theorem all_holds.tw6434971008564053025 : True := trivial
theorem all_holds.tw10847518420000418370 : True := trivial
theorem all_holds.tw344471535690007106 : True := trivial
theorem all_holds.tw8771270135054154978 : True := trivial
theorem all_holds.tw14404517923919644002 : True := trivial
theorem all_holds.tw415307523566786914 : True := trivial
theorem all_holds.tw11414415981185107298 : True := trivial
theorem all_holds.tw2481814830777050498 : True := trivial
theorem all_holds.tw9376206509711313282 : True := trivial
theorem all_holds.tw2162117138938076962 : True := trivial
theorem all_holds.tw12033518129128010562 : True := trivial
theorem all_holds.tw16861025345034360290 : True := trivial
theorem all_holds.tw1462597305873704418 : True := trivial
theorem all_holds.tw15996697224624427490 : True := trivial
theorem all_holds.tw6131571595011430914 : True := trivial
theorem all_holds.tw3941393077468913250 : True := trivial
theorem all_holds.tw9351779835075753602 : True := trivial
theorem all_holds.tw242428600593072162 : True := trivial
theorem all_holds.tw1847863085345681154 : True := trivial
theorem all_holds.tw17880147853919302818 : True := trivial
theorem all_holds.tw16239526300391425186 : True := trivial
theorem all_holds.tw5442905349163977922 : True := trivial
theorem all_holds.tw10399322802661967042 : True := trivial
theorem all_holds.tw10722559705329695938 : True := trivial
theorem all_holds.tw17021265125890349922 : True := trivial
theorem all_holds.tw16404799098263348546 : True := trivial
theorem all_holds.tw5279858478117418306 : True := trivial
theorem all_holds.tw574339834392976354 : True := trivial
theorem all_holds.tw4347017531647292418 : True := trivial
theorem all_holds.tw10917953447458524578 : True := trivial
theorem all_holds.tw5490627171626367074 : True := trivial
theorem all_holds.tw16413001508665336419 : True := trivial
theorem all_holds.tw6553705928008580387 : True := trivial
theorem all_holds.tw9079484072327329091 : True := trivial
theorem all_holds.tw4389583516784118083 : True := trivial
theorem all_holds.tw12750004657756985059 : True := trivial
theorem all_holds.tw2079041915113396995 : True := trivial
theorem all_holds.tw11524025644428126979 : True := trivial
theorem all_holds.tw4690483370583525123 : True := trivial
theorem all_holds.tw16805349290872591779 : True := trivial
theorem all_holds.tw7328514771526487459 : True := trivial
theorem all_holds.tw15938609840460811715 : True := trivial
theorem all_holds.tw399112102196015555 : True := trivial
theorem all_holds.tw15773663511784036803 : True := trivial
theorem all_holds.tw7307203439663030115 : True := trivial
theorem all_holds.tw14003605414569288579 : True := trivial
theorem all_holds.tw2732686320021785475 : True := trivial
theorem all_holds.tw15707262631923516963 : True := trivial
theorem all_holds.tw4552823439315304995 : True := trivial
theorem all_holds.tw17698132139750468131 : True := trivial
theorem all_holds.tw2254824289519102531 : True := trivial
theorem all_holds.tw2744443152901116483 : True := trivial
theorem all_holds.tw9798774677062555619 : True := trivial
theorem all_holds.tw8550666450095418371 : True := trivial
theorem all_holds.tw6641536528686478339 : True := trivial
theorem all_holds.tw17889568433268425827 : True := trivial
theorem all_holds.tw4825217631500557091 : True := trivial
theorem all_holds.tw4775654773244068643 : True := trivial
theorem all_holds.tw2984172600297035555 : True := trivial
theorem all_holds.tw14422899028478358339 : True := trivial
theorem all_holds.tw16464584099619285827 : True := trivial
theorem all_holds.tw13421128129497984227 : True := trivial
theorem all_holds.tw8766080525665989859 : True := trivial
theorem all_holds.tw8791207559194291427 : True := trivial
theorem all_holds.tw9369006903222621411 : True := trivial
theorem all_holds.tw17200772245862232323 : True := trivial
theorem all_holds.tw4557052080530485187 : True := trivial
theorem all_holds.tw14446328407214770563 : True := trivial
theorem all_holds.tw6339811580782781475 : True := trivial
theorem all_holds.tw4913468855613084707 : True := trivial
theorem all_holds.tw6331217461744244195 : True := trivial
theorem all_holds.tw120794924364457475 : True := trivial
theorem all_holds.tw2733084217800715812 : True := trivial
theorem all_holds.tw14140285928889135652 : True := trivial
theorem all_holds.tw14704539810118403652 : True := trivial
theorem all_holds.tw6435086584011678948 : True := trivial
theorem all_holds.tw9548977150745060580 : True := trivial
theorem all_holds.tw17223908034734344452 : True := trivial
theorem all_holds.tw14423074340777134756 : True := trivial
theorem all_holds.tw8210854982046248644 : True := trivial
theorem all_holds.tw17337086510288483012 : True := trivial
theorem all_holds.tw8214569427096845668 : True := trivial
theorem all_holds.tw13359026592574099812 : True := trivial
theorem all_holds.tw10307810298600553828 : True := trivial
theorem all_holds.tw2225140378205201188 : True := trivial
theorem all_holds.tw6009586004268696356 : True := trivial
theorem all_holds.tw17202541982848537380 : True := trivial
theorem all_holds.tw13610466922810337060 : True := trivial
theorem all_holds.tw94774501465019300 : True := trivial
theorem all_holds.tw13982532109926222788 : True := trivial
theorem all_holds.tw16649854285284016772 : True := trivial
theorem all_holds.tw12293141163748500676 : True := trivial
theorem all_holds.tw13981851956222506180 : True := trivial
theorem all_holds.tw17537912595347956580 : True := trivial
theorem all_holds.tw8901002326856930596 : True := trivial
theorem all_holds.tw12097860898450497860 : True := trivial
theorem all_holds.tw6678813878675337188 : True := trivial
theorem all_holds.tw2612672069594489828 : True := trivial
theorem all_holds.tw12820478671660297668 : True := trivial
theorem all_holds.tw7894225617549158852 : True := trivial
theorem all_holds.tw12349519764642637924 : True := trivial
theorem all_holds.tw1682847642287315109 : True := trivial
theorem all_holds.tw15075426038079054469 : True := trivial
theorem all_holds.tw10687008321478425925 : True := trivial
theorem all_holds.tw5075076426961950437 : True := trivial
theorem all_holds.tw5730619231678207717 : True := trivial
theorem all_holds.tw1954231381159877381 : True := trivial
theorem all_holds.tw2682810765050783493 : True := trivial
theorem all_holds.tw17374452966966504197 : True := trivial
theorem all_holds.tw15568863279731181989 : True := trivial
theorem all_holds.tw3481666732765503941 : True := trivial
theorem all_holds.tw1809930953424571237 : True := trivial
theorem all_holds.tw2599771498166521701 : True := trivial
theorem all_holds.tw13348656093946698277 : True := trivial
theorem all_holds.tw11642171710952671781 : True := trivial
theorem all_holds.tw6312768785455192613 : True := trivial
theorem all_holds.tw12019709626450741829 : True := trivial
theorem all_holds.tw14618713739055966213 : True := trivial
theorem all_holds.tw12246608761668194309 : True := trivial
theorem all_holds.tw5129012393824334501 : True := trivial
theorem all_holds.tw1700863318357483205 : True := trivial
theorem all_holds.tw8440499588669023365 : True := trivial
theorem all_holds.tw2199415312743907109 : True := trivial
theorem all_holds.tw17450506276563329861 : True := trivial
theorem all_holds.tw9927093658442714021 : True := trivial
theorem all_holds.tw18375366712946134949 : True := trivial
theorem all_holds.tw6853787732010879013 : True := trivial
theorem all_holds.tw18230986262190504997 : True := trivial
theorem all_holds.tw18247617775099523141 : True := trivial
theorem all_holds.tw7130680239057744806 : True := trivial
theorem all_holds.tw5674869662357007270 : True := trivial
theorem all_holds.tw5871064770571656134 : True := trivial
theorem all_holds.tw14516317788793569222 : True := trivial
theorem all_holds.tw2011650740227152838 : True := trivial
theorem all_holds.tw600281103472172998 : True := trivial
theorem all_holds.tw16507912853321840230 : True := trivial
theorem all_holds.tw7238116700631000710 : True := trivial
theorem all_holds.tw5569885049656311846 : True := trivial
theorem all_holds.tw6593200866348016678 : True := trivial
theorem all_holds.tw2382948838842168390 : True := trivial
theorem all_holds.tw10554032695590371046 : True := trivial
theorem all_holds.tw1729511342824604390 : True := trivial
theorem all_holds.tw16528549692565559014 : True := trivial
theorem all_holds.tw15535122491212272390 : True := trivial
theorem all_holds.tw556070738156761958 : True := trivial
theorem all_holds.tw475763037965957990 : True := trivial
theorem all_holds.tw3870220229949378406 : True := trivial
theorem all_holds.tw16029411059009376134 : True := trivial
theorem all_holds.tw386113983967716646 : True := trivial
theorem all_holds.tw965100097065854278 : True := trivial
theorem all_holds.tw12914256579959173094 : True := trivial
theorem all_holds.tw5008742330127226886 : True := trivial
theorem all_holds.tw3578826278008829958 : True := trivial
theorem all_holds.tw12978444350639793158 : True := trivial
theorem all_holds.tw11850799481690489254 : True := trivial
theorem all_holds.tw7431982049041242534 : True := trivial
theorem all_holds.tw7355099079023623270 : True := trivial
theorem all_holds.tw7312283302664714374 : True := trivial
theorem all_holds.tw8681862152218439814 : True := trivial
theorem all_holds.tw11091885842078207110 : True := trivial
theorem all_holds.tw3309963658668949030 : True := trivial
theorem all_holds.tw11680368036575594022 : True := trivial
theorem all_holds.tw10074375908134553830 : True := trivial
theorem all_holds.tw2897967635337609894 : True := trivial
theorem all_holds.tw13057628960112064166 : True := trivial
theorem all_holds.tw8468437280683633350 : True := trivial
theorem all_holds.tw9124401849095778694 : True := trivial
theorem all_holds.tw139351468186188359 : True := trivial
theorem all_holds.tw11838360191452300871 : True := trivial
theorem all_holds.tw63485472342606535 : True := trivial
theorem all_holds.tw12176822452268842695 : True := trivial
theorem all_holds.tw18080248171534988423 : True := trivial
theorem all_holds.tw4704567386715469959 : True := trivial
theorem all_holds.tw17575805716670587687 : True := trivial
theorem all_holds.tw4218079142953439143 : True := trivial
theorem all_holds.tw13587749684597953447 : True := trivial
theorem all_holds.tw7848939633828580743 : True := trivial
theorem all_holds.tw18346946635606137927 : True := trivial
theorem all_holds.tw16204187119562972231 : True := trivial
theorem all_holds.tw4063857875943508455 : True := trivial
theorem all_holds.tw3905983226752582151 : True := trivial
theorem all_holds.tw8115244311604656647 : True := trivial
theorem all_holds.tw1436264886281784487 : True := trivial
theorem all_holds.tw7915697753044957351 : True := trivial
theorem all_holds.tw4674790044626503879 : True := trivial
theorem all_holds.tw1288578250289680583 : True := trivial
theorem all_holds.tw10798683470109426279 : True := trivial
theorem all_holds.tw7768973333075736903 : True := trivial
theorem all_holds.tw5459369123022994151 : True := trivial
theorem all_holds.tw12964938144498297255 : True := trivial
theorem all_holds.tw6413536101845751207 : True := trivial
theorem all_holds.tw8685881023836744135 : True := trivial
theorem all_holds.tw2025569376631687688 : True := trivial
theorem all_holds.tw492369028961288136 : True := trivial
theorem all_holds.tw6643479623655116392 : True := trivial
theorem all_holds.tw1036687956903233160 : True := trivial
theorem all_holds.tw11396573936360133256 : True := trivial
theorem all_holds.tw6693147945586083464 : True := trivial
theorem all_holds.tw11775984850497031208 : True := trivial
theorem all_holds.tw12912802642401737448 : True := trivial
theorem all_holds.tw8527821212947605224 : True := trivial
theorem all_holds.tw5617924241074089704 : True := trivial
theorem all_holds.tw1558637813404119816 : True := trivial
theorem all_holds.tw13747970721792838408 : True := trivial
theorem all_holds.tw7100816264715399368 : True := trivial
theorem all_holds.tw9004415497289974632 : True := trivial
theorem all_holds.tw128785120655141736 : True := trivial
theorem all_holds.tw2349844794918565768 : True := trivial
theorem all_holds.tw11352819252012844936 : True := trivial
theorem all_holds.tw11911003428742420808 : True := trivial
theorem all_holds.tw11935146128076624904 : True := trivial
theorem all_holds.tw9792540530815538184 : True := trivial
theorem all_holds.tw15617187284975086024 : True := trivial
theorem all_holds.tw16812422930558042216 : True := trivial
theorem all_holds.tw12766824575299919560 : True := trivial
theorem all_holds.tw6040024325123359080 : True := trivial
theorem all_holds.tw16349159281377352072 : True := trivial
theorem all_holds.tw3532031922601158185 : True := trivial
theorem all_holds.tw6108229625908722249 : True := trivial
theorem all_holds.tw17865846333189720649 : True := trivial
theorem all_holds.tw8884985702121372649 : True := trivial
theorem all_holds.tw7697491169267254249 : True := trivial
theorem all_holds.tw13984846031613145225 : True := trivial
theorem all_holds.tw17431145304529284937 : True := trivial
theorem all_holds.tw790859524312538953 : True := trivial
theorem all_holds.tw15706384122805101801 : True := trivial
theorem all_holds.tw8564543964102342025 : True := trivial
theorem all_holds.tw11247744471712189833 : True := trivial
theorem all_holds.tw2152068352488861065 : True := trivial
theorem all_holds.tw596485336823666057 : True := trivial
theorem all_holds.tw1344906898059131945 : True := trivial
theorem all_holds.tw11715713941365882921 : True := trivial
theorem all_holds.tw15031276911372722217 : True := trivial
theorem all_holds.tw11680178823819481577 : True := trivial
theorem all_holds.tw4549246110722546153 : True := trivial
theorem all_holds.tw15586189447619039401 : True := trivial
theorem all_holds.tw6540146266013590697 : True := trivial
theorem all_holds.tw14630075403531064489 : True := trivial
theorem all_holds.tw12357180398889558633 : True := trivial
theorem all_holds.tw16905565347460545129 : True := trivial
theorem all_holds.tw12486298160577753705 : True := trivial
theorem all_holds.tw14914848952357550377 : True := trivial
theorem all_holds.tw4028585344248356617 : True := trivial
theorem all_holds.tw1133829364763195817 : True := trivial
theorem all_holds.tw16267266776957758889 : True := trivial
theorem all_holds.tw7574204181410808265 : True := trivial
theorem all_holds.tw9639851970079027657 : True := trivial
theorem all_holds.tw12752520397001898857 : True := trivial
theorem all_holds.tw2820521092076126057 : True := trivial
theorem all_holds.tw9290933758246888970 : True := trivial
theorem all_holds.tw9881625231860924330 : True := trivial
theorem all_holds.tw5157221971327602634 : True := trivial
theorem all_holds.tw7935970865532635082 : True := trivial
theorem all_holds.tw3368175359296086986 : True := trivial
theorem all_holds.tw866895274688535178 : True := trivial
theorem all_holds.tw4896167421824252970 : True := trivial
theorem all_holds.tw4982859601417826378 : True := trivial
theorem all_holds.tw15877147323239413834 : True := trivial
theorem all_holds.tw11164390682933068522 : True := trivial
theorem all_holds.tw3636691206982931210 : True := trivial
theorem all_holds.tw793038875404742538 : True := trivial
theorem all_holds.tw17918272859591627050 : True := trivial
theorem all_holds.tw4048350296897747274 : True := trivial
theorem all_holds.tw3884348585598564362 : True := trivial
theorem all_holds.tw86147145070378410 : True := trivial
theorem all_holds.tw6213370615916338602 : True := trivial
theorem all_holds.tw4649801262521321930 : True := trivial
theorem all_holds.tw15862135367083374698 : True := trivial
theorem all_holds.tw4131923842223869034 : True := trivial
theorem all_holds.tw17275622163121511562 : True := trivial
theorem all_holds.tw8368144803724119594 : True := trivial
theorem all_holds.tw2108168117584010826 : True := trivial
theorem all_holds.tw14357262386044904682 : True := trivial
theorem all_holds.tw10085390114483727018 : True := trivial
theorem all_holds.tw2418467602817445546 : True := trivial
theorem all_holds.tw7503674085927307978 : True := trivial
theorem all_holds.tw15788744665099363690 : True := trivial
theorem all_holds.tw2620696512203261290 : True := trivial
theorem all_holds.tw745491294298768746 : True := trivial
theorem all_holds.tw15604780600599634762 : True := trivial
theorem all_holds.tw5022788072005688810 : True := trivial
theorem all_holds.tw10870922602476956875 : True := trivial
theorem all_holds.tw4991908880863821003 : True := trivial
theorem all_holds.tw11215793291482050795 : True := trivial
theorem all_holds.tw15393256130332065003 : True := trivial
theorem all_holds.tw11342428225038429835 : True := trivial
theorem all_holds.tw4649547627389107851 : True := trivial
theorem all_holds.tw18304492747806532267 : True := trivial
theorem all_holds.tw3458360010633963179 : True := trivial
theorem all_holds.tw3446903529671786155 : True := trivial
theorem all_holds.tw14162451985270840651 : True := trivial
theorem all_holds.tw568423877094472171 : True := trivial
theorem all_holds.tw11234382599480384427 : True := trivial
theorem all_holds.tw102130030077945771 : True := trivial
theorem all_holds.tw13431271348114362955 : True := trivial
theorem all_holds.tw3752069863333149259 : True := trivial
theorem all_holds.tw6423238097177403979 : True := trivial
theorem all_holds.tw18301763959805303403 : True := trivial
theorem all_holds.tw14912558815147539147 : True := trivial
theorem all_holds.tw13581668716680922859 : True := trivial
theorem all_holds.tw5331726873961166667 : True := trivial
theorem all_holds.tw17508508158893747051 : True := trivial
theorem all_holds.tw1169207220144417643 : True := trivial
theorem all_holds.tw10682261786226963307 : True := trivial
theorem all_holds.tw2021765514855120139 : True := trivial
theorem all_holds.tw15011094255006549259 : True := trivial
theorem all_holds.tw12879035991393369387 : True := trivial
theorem all_holds.tw12055439763320509739 : True := trivial
theorem all_holds.tw10831084672234429739 : True := trivial
theorem all_holds.tw5322972793047548907 : True := trivial
theorem all_holds.tw4635321626891578763 : True := trivial
theorem all_holds.tw13655773194365775243 : True := trivial
theorem all_holds.tw16522837594912569771 : True := trivial
theorem all_holds.tw11832311656231230571 : True := trivial
theorem all_holds.tw1522614576023933035 : True := trivial
theorem all_holds.tw5276208786176742507 : True := trivial
theorem all_holds.tw2400510052150165611 : True := trivial
theorem all_holds.tw8565462118141890732 : True := trivial
theorem all_holds.tw15956880480961941068 : True := trivial
theorem all_holds.tw9151956267040031308 : True := trivial
theorem all_holds.tw10646525411499201132 : True := trivial
theorem all_holds.tw14688894480948186732 : True := trivial
theorem all_holds.tw909682812059482732 : True := trivial
theorem all_holds.tw7507649921410654476 : True := trivial
theorem all_holds.tw1915811445008830732 : True := trivial
theorem all_holds.tw13128494460056736012 : True := trivial
theorem all_holds.tw15251661050247001356 : True := trivial
theorem all_holds.tw3658642881300111052 : True := trivial
theorem all_holds.tw3132983704529503980 : True := trivial
theorem all_holds.tw18277410907775379852 : True := trivial
theorem all_holds.tw9813302130168315308 : True := trivial
theorem all_holds.tw11703135823136044556 : True := trivial
theorem all_holds.tw10051669662657436204 : True := trivial
theorem all_holds.tw11100408630667622348 : True := trivial
theorem all_holds.tw1164156014489005740 : True := trivial
theorem all_holds.tw6260807206803060396 : True := trivial
theorem all_holds.tw6574643450453431372 : True := trivial
theorem all_holds.tw1685020103966695500 : True := trivial
theorem all_holds.tw12646569193296166988 : True := trivial
theorem all_holds.tw15170758932302649452 : True := trivial
theorem all_holds.tw16154066994337140492 : True := trivial
theorem all_holds.tw5259030300930705196 : True := trivial
theorem all_holds.tw10003615420858013932 : True := trivial
theorem all_holds.tw851595398980913036 : True := trivial
theorem all_holds.tw15227589984133389228 : True := trivial
theorem all_holds.tw17343286615158260044 : True := trivial
theorem all_holds.tw4771409974062449708 : True := trivial
theorem all_holds.tw16048814478092066860 : True := trivial
theorem all_holds.tw792041773132520908 : True := trivial
theorem all_holds.tw3439803260998305260 : True := trivial
theorem all_holds.tw3744724002331314316 : True := trivial
theorem all_holds.tw3410373841687708205 : True := trivial
theorem all_holds.tw10428082840143852173 : True := trivial
theorem all_holds.tw16502295347104047469 : True := trivial
theorem all_holds.tw2592235665513768301 : True := trivial
theorem all_holds.tw5331827101469829485 : True := trivial
theorem all_holds.tw17297762467735028173 : True := trivial
theorem all_holds.tw12027190938081465805 : True := trivial
theorem all_holds.tw11819413148617725421 : True := trivial
theorem all_holds.tw14765313240771333005 : True := trivial
theorem all_holds.tw10461286248601986989 : True := trivial
theorem all_holds.tw12153288445961155501 : True := trivial
theorem all_holds.tw8316907912530345901 : True := trivial
theorem all_holds.tw16945726976730751597 : True := trivial
theorem all_holds.tw15339930262969405453 : True := trivial
theorem all_holds.tw16720652499064695501 : True := trivial
theorem all_holds.tw10022726544913074893 : True := trivial
theorem all_holds.tw13246863089172178061 : True := trivial
theorem all_holds.tw9158635118345435309 : True := trivial
theorem all_holds.tw522766978403187885 : True := trivial
theorem all_holds.tw3095748364147577709 : True := trivial
theorem all_holds.tw9378237051414150413 : True := trivial
theorem all_holds.tw10038988433242596653 : True := trivial
theorem all_holds.tw10134546517479240685 : True := trivial
theorem all_holds.tw3628227230414230509 : True := trivial
theorem all_holds.tw5751314681107061165 : True := trivial
theorem all_holds.tw1075853844792877133 : True := trivial
theorem all_holds.tw13350633032971871309 : True := trivial
theorem all_holds.tw14855995939113485837 : True := trivial
theorem all_holds.tw319834086063593997 : True := trivial
theorem all_holds.tw13085085621083108877 : True := trivial
theorem all_holds.tw17188195278012340398 : True := trivial
theorem all_holds.tw4437189603806179950 : True := trivial
theorem all_holds.tw11311003812048533774 : True := trivial
theorem all_holds.tw14568924549279492494 : True := trivial
theorem all_holds.tw18352569302569658798 : True := trivial
theorem all_holds.tw7313518671394054574 : True := trivial
theorem all_holds.tw6395181034800201582 : True := trivial
theorem all_holds.tw16036599556882370094 : True := trivial
theorem all_holds.tw3685967830545835566 : True := trivial
theorem all_holds.tw2280693959904441902 : True := trivial
theorem all_holds.tw6397861935159388110 : True := trivial
theorem all_holds.tw1856183413012815822 : True := trivial
theorem all_holds.tw16282796206635583438 : True := trivial
theorem all_holds.tw6924055715289815022 : True := trivial
theorem all_holds.tw2817703435172113038 : True := trivial
theorem all_holds.tw13468976110314187886 : True := trivial
theorem all_holds.tw6084014965668060270 : True := trivial
theorem all_holds.tw18199953888672930926 : True := trivial
theorem all_holds.tw10759708896893519630 : True := trivial
theorem all_holds.tw2213770181458262798 : True := trivial
theorem all_holds.tw14822842782134866126 : True := trivial
theorem all_holds.tw4235526975683799246 : True := trivial
theorem all_holds.tw3371547971074405582 : True := trivial
theorem all_holds.tw11912877864570017998 : True := trivial
theorem all_holds.tw15826060415544963310 : True := trivial
theorem all_holds.tw7370510087867389838 : True := trivial
theorem all_holds.tw11540444221621378414 : True := trivial
theorem all_holds.tw13457938192362741102 : True := trivial
theorem all_holds.tw2403123210447013934 : True := trivial
theorem all_holds.tw9642569183956521006 : True := trivial
theorem all_holds.tw1017167713568814 : True := trivial
theorem all_holds.tw17191335178041748974 : True := trivial
theorem all_holds.tw11857070681193612430 : True := trivial
theorem all_holds.tw2051843472587715791 : True := trivial
theorem all_holds.tw7646465506250914031 : True := trivial
theorem all_holds.tw17910081967731014895 : True := trivial
theorem all_holds.tw6708277112385842863 : True := trivial
theorem all_holds.tw7488904526593443503 : True := trivial
theorem all_holds.tw5070268060092051247 : True := trivial
theorem all_holds.tw3932537104205986287 : True := trivial
theorem all_holds.tw7575978887819536271 : True := trivial
theorem all_holds.tw2464816129670822799 : True := trivial
theorem all_holds.tw4505828978065530799 : True := trivial
theorem all_holds.tw544880681341666223 : True := trivial
theorem all_holds.tw7447520094640880239 : True := trivial
theorem all_holds.tw9878285261989833327 : True := trivial
theorem all_holds.tw3459079820109062767 : True := trivial
theorem all_holds.tw14838383666357403663 : True := trivial
theorem all_holds.tw18344616171070297103 : True := trivial
theorem all_holds.tw5024872439784601647 : True := trivial
theorem all_holds.tw14660052603265436367 : True := trivial
theorem all_holds.tw16625619169193314447 : True := trivial
theorem all_holds.tw18030730308973307759 : True := trivial
theorem all_holds.tw14998212112814235919 : True := trivial
theorem all_holds.tw17768006804568789263 : True := trivial
theorem all_holds.tw5985560295253975343 : True := trivial
theorem all_holds.tw2733340438656254959 : True := trivial
theorem all_holds.tw9433783705678787567 : True := trivial
theorem all_holds.tw2538495102944502159 : True := trivial
theorem all_holds.tw12376212213912989071 : True := trivial
theorem all_holds.tw4929307313232549967 : True := trivial
theorem all_holds.tw18074926003056122398 : True := trivial
example : True := by
  k_with_none
  (k_with "ite!" => with_reducible (first | refine itT ?_ | refine itF ?_ | refine itNT ?_ | refine itNF ?_))
  (k_with "subscriptTail Name Constant ref str!" => (k_here; k_dflt (refine' itemN (knd := PySem.strKind _ _) ?N_z ?m_z ?d_z (strKind_is _ _ _ _) ?r_z ?_ ?s_z ?g_z; (case N_z => k_asm); (case m_z => k_mem); (case d_z => k_asm); (case r_z => rfl); (case s_z => with_unfolding_all rfl); (case g_z => (intro _; with_unfolding_all rfl)))))
  (k_with "subscriptTail Name Constant ref int!" => (k_here; first | k_extra "subscriptTail!" | k_dflt (refine' item_tupleT ?t_z ?a_z ?b_z ?c_z ?d_z ?_; (case t_z => exact News.isTup (by k_asm) (by k_mem)); (case a_z => decide); (case b_z => decide); (case c_z => rfl); (case d_z => rfl); k_whole)))
  (k_with "eval Name!" => (k_here; k_dflt (refine' nameX_L ?F_z ?v_z ?_ ?a_z ?b_z; (case F_z => k_asm); (case a_z => rfl); (case b_z => rfl); (case v_z => rfl); k_whole)))
  (k_with "exec Assign!" => ((with_reducible show wpAny _ _ (exec (Stmt.Assign [Expr.Name _ _] _ _) _) _ _ _); with_reducible refine wpAny_Assign_Name ?_))
  (k_with "MY rd" => first | exact RdArgs.nil | (refine' RdArgs.name ?x_z ?d_z ?v_z ?r_z; (case x_z => rfl); (case d_z => decide); (case v_z => rfl); (case r_z => k_extra "MY rd")) | (refine' RdArgs.str ?r_z; (case r_z => k_extra "MY rd")) | (refine' RdArgs.int ?r_z; (case r_z => k_extra "MY rd")) | (refine' RdArgs.bool ?r_z; (case r_z => k_extra "MY rd")) | (refine' RdArgs.non ?r_z; (case r_z => k_extra "MY rd")))
  (k_with "spliced!" => (k_here; (first | with_reducible show wpAny _ _ (spliced (backTo _ (starEach (Expr.Name _ _ :: _) _))) _ _ _ | with_reducible show wpAny _ _ (spliced (backTo _ (starEach (Expr.Constant _ _ _ :: _) _))) _ _ _); k_dflt (refine' args_rd ?F_z ?k_z ?r_z ?_; (case F_z => k_asm); (case k_z => rfl); (case r_z => k_extra "MY rd"); k_whole); (try dsimp only [List.cons_append, List.nil_append])))
  (k_with "eval Constant str!" => with_reducible refine const_str ?_)
  (k_with "eval Constant int!" => with_reducible refine const_int ?_)
  (k_with "storeName!" => (k_here; k_dflt (refine' storeN ?F_z ?N_z ?_ ?a_z ?b_z; (case F_z => k_asm); (case N_z => k_asm); (case a_z => rfl); (case b_z => rfl); k_whole; intro hq' Fq' Nq'; (try k_sweep))))
  (k_with "unpackItems ref!" => (k_here; k_dflt (refine' unpackN ?k1_z ?k2_z ?k3_z ?k4_z ?k5_z ?_; (case k1_z => k_asm); (case k2_z => k_asm); (case k3_z => kun_tup); (case k4_z => exact rfl); (case k5_z => exact rfl); k_whole); intro hq' Fq' Nq'; (try k_sweep)))
  (k_with "newTuple cons!" => (k_here; (with_reducible show wpAny _ _ (newTuple [_, _]) _ _ _); k_dflt (first | (refine' tupTo2 ?F_z ?N_z ?k_z ?x_z ?y_z ?hh_z ?_; (case F_z => k_asm); (case N_z => k_asm); (case k_z => rfl); (case x_z => rfl); (case y_z => rfl); (case hh_z => exact rfl); k_whole) | (refine' tupTo2s ?F_z ?N_z ?t_z ?k_z ?x_z ?y_z ?hh_z ?_; (case F_z => k_asm); (case N_z => k_asm); (case t_z => with_unfolding_all rfl); (case k_z => rfl); (case x_z => rfl); (case y_z => rfl); (case hh_z => exact rfl); k_whole)); intro hq' Fq' Nq'; (try k_sweep)))
  (k_with "eval Subscript!" => (k_here; (with_reducible show wpAny _ _ (eval (Expr.Subscript (Expr.Name _ _) (Expr.Constant (Const.str _) _ _) _) _) _ _ _); k_dflt (refine' subName ?F_z ?N_z ?k_z ?x_z ?b_z ?v_z ?p_z ?o_z ?l_z ?_; (case F_z => k_asm); (case N_z => k_asm); (case k_z => rfl); (case x_z => rfl); (case b_z => decide); (case v_z => rfl); (case p_z => k_mem); (case o_z => k_asm); (case l_z => rfl); k_whole)))
  (k_with "execs cons!" => (k_here; (first | (with_reducible refine execs_gen ?_; intro tq') | with_reducible refine wpAny_execs_cons ?_); (try k_fold)))
  (k_with "k_room!" => first | (refine' rm_k ?h_z ?e_z; (case h_z => with_reducible assumption); (case e_z => rfl)) | ((try simp only [depth_under_make, depth_under_kw, depth_in1, depth_deeper, depth_caller]); show _ < 1000; (try dsimp only); omega))
  (k_with "ke_room!" => first | (refine' rm_u ?h_z ?e_z; (case h_z => with_reducible assumption); (case e_z => rfl)) | ((simp only [units_under_make, units_in1, units_deeper, Around.mark_units, units_caller]); show _ < 9900; (try dsimp only); omega))
  (k_with "MY room" => first | (refine' rm_le ?h_z ?e_z; (case h_z => with_reducible assumption); (case e_z => rfl)) | ((try simp only [depth_under_make, depth_under_kw, depth_in1, depth_deeper, depth_caller, units_under_make, units_in1, units_deeper, Around.mark_units, units_caller]); (try dsimp only); omega))
  (k_with "call ref!" => (k_here; (with_reducible show wpAny _ _ (call (Value.ref 723) _) _ _ _); k_dflt (refine' call_scoop ?k1_z ?k2_z ?k3_z ?k4_z ?k5_z ?U_z ?hf_z ?hk_z ?hr_z ?hu_z ?p1_z ?p4_z ?p5_z ?_; (case hf_z => exact rfl); (case hk_z => exact rfl); (case k1_z => k_asm); (case k2_z => k_asm); (case k3_z => k_asm); (case k4_z => k_asm); (case k5_z => k_asm); (case U_z => k_updF); (case hr_z => k_extra "MY room"); (case hu_z => k_extra "MY room"); (case p1_z => k_asm); (case p4_z => omega); (case p5_z => omega); k_whole); intro h' tk' r' tr' a' ta' b' tb' F' N' hr0' hr1' ok'; (try dsimp only at N'); (try k_sweep)))
  (k_with "newTuple!" => (k_here; k_dflt (refine' newTupS ?F_z ?N_z ?z_z ?_; (case F_z => k_asm); (case N_z => k_asm); (case z_z => rfl); k_whole); intro Dq' hq' lq' Fq' Nq'; (try k_sweep)))
  (k_with "newList!" => (k_here; k_dflt (refine' newListS ?F_z ?N_z ?z_z ?_; (case F_z => k_asm); (case N_z => k_asm); (case z_z => rfl); k_whole); intro Dq' hq' lq' Fq' Nq'; (try k_sweep)))
  (k_with "MYM" => with_reducible (first | exact mm0 | exact mm1 | exact mm2 | exact mm3 | exact mm4 | exact mm5 | exact mm6 | exact mm7 | exact mm8 | exact mm9 | exact mm10 | exact mm11 | exact mm12 | exact mm13 | exact mm14 | exact mm15 | exact mm16 | exact mm17 | exact mm18 | exact mm19 | exact mm20 | exact mm21 | exact mm22 | exact mm23 | exact mm24 | exact mm25 | exact mm26 | exact mm27 | exact mm28 | exact mm29 | exact mm30 | exact mm31 | exact mm32 | exact mm33 | exact mm34 | exact mm35 | exact mm36 | exact mm37 | exact mm38 | exact mm39 | exact mm40 | exact mm41 | exact mm42 | exact mm43 | exact mm44 | exact mm45 | exact mm46 | exact mm47))
  (k_with "MYB" => (first | (with_reducible refine bf0 ?_) | (with_reducible refine bg0 ?_) | (with_reducible refine bf1 ?_) | (with_reducible refine bg1 ?_) | (with_reducible refine bf2 ?_) | (with_reducible refine bg2 ?_) | (with_reducible refine bf3 ?_) | (with_reducible refine bg3 ?_) | (with_reducible refine bf4 ?_) | (with_reducible refine bg4 ?_) | (with_reducible refine bf5 ?_) | (with_reducible refine bg5 ?_) | (with_reducible refine bf6 ?_) | (with_reducible refine bg6 ?_) | (with_reducible refine bf7 ?_) | (with_reducible refine bg7 ?_) | (with_reducible refine bf8 ?_) | (with_reducible refine bg8 ?_) | (with_reducible refine bf9 ?_) | (with_reducible refine bg9 ?_) | (with_reducible refine bf10 ?_) | (with_reducible refine bg10 ?_) | (with_reducible refine bf11 ?_) | (with_reducible refine bg11 ?_)); k_extra "MYM")
  (k_with "k_mem!" => k_extra "MYM")
  (k_with "k_all!" => exact ltS_all (by with_reducible assumption))
  (k_with "k_ne!" => (refine neN ?_; (try dsimp only); first | (refine' allLt_ne ?L_z ?M_z; (case L_z => with_reducible assumption); (case M_z => k_extra "MYM")) | (refine' lt_neS ?L_z ?M_z; (case L_z => with_reducible assumption); (case M_z => k_extra "MYM")) | (refine' aps_ne ?A_z ?B_z; (case A_z => with_reducible assumption); (case B_z => k_extra "MYB")) | (refine' lt_ne1 ?L_z ?M_z; (case L_z => with_reducible assumption); (case M_z => k_extra "MYM")) | (refine' lt_neS1 ?L_z ?M_z; (case L_z => with_reducible assumption); (case M_z => k_extra "MYM")) | exact ne_lt (by with_reducible assumption) | exact (ne_lt (by with_reducible assumption)).symm | (refine' allLt_ne2 ?e_z ?L_z ?M_z; (case e_z => with_reducible assumption); (case L_z => with_reducible assumption); (case M_z => k_extra "MYM")) | (refine' (allLt_ne2 ?e_z ?L_z ?M_z).symm; (case e_z => with_reducible assumption); (case L_z => with_reducible assumption); (case M_z => k_extra "MYM")) | exact AllAp.get (by with_reducible assumption) (by k_mem) | exact (AllAp.get (by with_reducible assumption) (by k_mem)).symm | fail "MY ne"))
  (k_with "MY step" => first | (k_unfold; (try dsimp only)) | (k_end; wrow_close) | walk1 | (dsimp only; walk1) | (leave1; walk_say "STEP leave1"; try dsimp only) | fail "no step")
  (k_with "MY sub" => exact fun _ h => List.mem_append_left _ h)
  (k_with "k_mem!" => (first | (with_reducible refine List.mem_append_right _ ?_) | (with_reducible refine memR ?_)); k_mem)
  (k_with "MY pot" => first | with_reducible assumption | (refine' PotOk.mk ?_ ?_ ?_ <;> first | omega | exact Int.add_nonneg (Int.fmod_nonneg_of_pos _ (by decide)) (by decide) | exact Int.lt_of_lt_of_le (Int.add_lt_add_right (Int.fmod_lt_of_pos _ (by decide)) _) (by decide)))
  (k_with "call ref!" => (k_here; (with_reducible show wpAny _ _ (call (Value.ref 749) _) _ _ _); k_dflt (refine' call_chan ?k1_z ?k2_z ?k3_z ?k4_z ?k5_z ?U_z ?hf_z ?hk_z ?hr_z ?hu_z ?p1_z ?_; (case hf_z => exact rfl); (case hk_z => exact rfl); (case k1_z => k_asm); (case k2_z => k_asm); (case k3_z => k_asm); (case k4_z => k_asm); (case k5_z => k_asm); (case U_z => k_updF); (case hr_z => exact Nat.le_of_ble_eq_true rfl); (case hu_z => exact Nat.le_of_ble_eq_true rfl); (case p1_z => k_extra "MY pot")); intro h' tk' a' b' ta' tb' F' N' ok'; (try dsimp only at N'); (try k_sweep)))
  (k_with "call ref!" => (k_here; (with_reducible show wpAny _ _ (call (Value.ref 754) _) _ _ _); k_dflt (refine' call_rows ?k1_z ?k2_z ?k3_z ?k4_z ?k5_z ?U_z ?hf_z ?hk_z ?hr_z ?hu_z ?p1_z ?_; (case hf_z => exact rfl); (case hk_z => exact rfl); (case k1_z => k_asm); (case k2_z => k_asm); (case k3_z => k_asm); (case k4_z => k_asm); (case k5_z => k_asm); (case U_z => k_updF); (case hr_z => exact Nat.le_of_ble_eq_true rfl); (case hu_z => exact Nat.le_of_ble_eq_true rfl); (case p1_z => k_extra "MY pot")); intro h' tk' a' b' ta' tb' F' N' ok'; (try dsimp only at N'); (try k_sweep)))
  (k_with "call ref!" => (k_here; (with_reducible show wpAny _ _ (call (Value.ref 759) _) _ _ _); k_dflt (refine' call_gates ?k1_z ?k2_z ?k3_z ?k4_z ?k5_z ?U_z ?hf_z ?hk_z ?hr_z ?hu_z ?p1_z ?_; (case hf_z => exact rfl); (case hk_z => exact rfl); (case k1_z => k_asm); (case k2_z => k_asm); (case k3_z => k_asm); (case k4_z => k_asm); (case k5_z => k_asm); (case U_z => k_updF); (case hr_z => exact Nat.le_of_ble_eq_true rfl); (case hu_z => exact Nat.le_of_ble_eq_true rfl); (case p1_z => k_extra "MY pot")); intro h' tk' F'))
  trivial
set_option Elab.async true in
set_option rowWalk.seconds 0 in
set_option maxRecDepth 100000 in
set_option maxHeartbeats 8000000 in
theorem all_holds : PySem.Challenge.rw_xm0182_01.Holds := by
  (w_on; o_law; k_head; (case hw => w_witness2))
  k_go0
  rename (Frag.In _ _) => X9
  replace X9 : (Mine.hd0.heap_1_1 _).In _ := X9
  rename (Top _ _ _ _ _ _) => T9
  replace T9 : Top PV LO _ _ _ _ := T9
  all_goals (try k_fold)
  repeat' ((fail_if_success (with_reducible show wpAny _ _ (call (Value.ref 364) _) _ _ _)); k_extra "MY step")
  rename Fr _ _ _ _ => F9
  rename News _ _ _ _ => N9
  rename Below _ _ _ _ => B9
  refine' call_once (gs := lawGs) B9 ?X ?T F9 N9 ?hrl ?htl ?hp ?hl9 ?tup rfl rfl ?hr ?hu ?_
  case X => k_asm
  case T => k_asm
  case hrl => exact List.Mem.head _
  case htl => exact fun _ h => List.Mem.tail _ h
  case hp => (unfold lawGs; (refine' .cons (pair_int ?a1 ?b1 ok_a) (.cons (pair_int ?a2 ?b2 ok_b) (.cons (pair_none ?a3 ?b3 ok_c) (.cons (pair_none ?a4 ?b4 ok_d) .nil)))); (case a1 => k_mem); (case b1 => k_mem); (case a2 => k_mem); (case b2 => k_mem); (case a3 => k_mem); (case b3 => k_mem); (case a4 => k_mem); (case b4 => k_mem))
  case hl9 => exact Nat.le_of_ble_eq_true rfl
  case tup => (intro q hq; simp only [List.mem_cons, List.not_mem_nil, or_false] at hq; rcases hq with rfl | rfl | rfl | rfl | rfl | rfl | rfl | rfl <;> rfl)
  case hr => exact Nat.le_of_ble_eq_true rfl
  case hu => exact Nat.le_of_ble_eq_true rfl
  intro h' tk' fl fV nf ex F10 N10 hd
  clear F9 N9
  repeat' ((fail_if_success (with_reducible show wpAny _ _ (compareOp CmpOp.NotEq (Value.ref _) (Value.ref _)) _ _ _)); k_extra "MY step")
  rename Fr _ _ _ _ => F9
  rename News _ _ _ _ => N9
  refine' ne_dat (ds := [rowD 1 5 0 (.int 7) "a", rowD 3 6 0 .none "c", rowD 3 6 0 .none "d"]) N9 ?ma ?mb (lawGs_once ▸ hd) ?sa ?db (fun _ h => h) law_ok ?u ?_
  case ma => k_mem
  case mb => k_mem
  case sa => exact fun _ h => .tail _ (.tail _ (.tail _ (.tail _ (.tail _ h))))
  case db => ((refine' .cons (dat_int ?a1 ?b1) (.cons (dat_none ?a2 ?b2) (.cons (dat_none ?a3 ?b3) .nil))); (case a1 => k_mem); (case b1 => k_mem); (case a2 => k_mem); (case b2 => k_mem); (case a3 => k_mem); (case b3 => k_mem))
  case u => ke_room
  repeat' (k_extra "MY step")
end
end Mine
theorem PySem.Challenge.cw_xm0182_01_holds : PySem.Challenge.rw_xm0182_01.Holds :=
  Mine.all_holds
