import PyProof.Rows.All
import Wide.All
import OpenK.AllK
import Wide.FinOn
import PyProof.EqKinds
import KE.KEqDict
import KE.KDictOf
import PyProof.IsiH_tuple
import Lean
import PySem.Challenge.RW_og0067_01
set_option Elab.async false
set_option linter.all false
set_option maxRecDepth 100000
set_option maxHeartbeats 8000000
section
open PySem PySem.W PyProof.Rows
/-- the text without the three statements that no view keeps -/
def Og.view : Program := { PySem.Challenge.pw_og0067_01 with main := { PySem.Challenge.pw_og0067_01.main with body := (PySem.Challenge.pw_og0067_01.main.body.drop 1).take 10 ++ ((PySem.Challenge.pw_og0067_01.main.body.drop 12).take 1 ++ PySem.Challenge.pw_og0067_01.main.body.drop 14) } }
local macro_rules | `(tactic| o_head $H) => do
  let hw := Lean.mkIdent `hw
  let hc := Lean.mkIdent `hc
  `(tactic| refine holds_open (q := Og.view) (loose := [Str.ofString "_law_ref"]) (Xt := fun s => xlAt Og.view [] s && recOk (RowW.records (OpenRow.toRowW (PySem.Challenge.rw_og0067_01.row))) s) (XP := XL Og.view []) (Yf := Hook.obs $H) (Ya := Hook.val $H) (YP := Hook.says $H) (N := 1192) (fun w => by kernel_rfl) (Hook.of $H) (Hook.keeps $H) (fun s e => xl_of s (Bool.and_eq_true_iff.mp e).1) XL.keeps (by rfl) (by rfl) (by rfl) (fun s e => recFacts_of (Bool.and_eq_true_iff.mp e).2) (by rfl) (by kernel_rfl) (by decide +kernel) ⟨rfl, rfl, rfl, rfl, rfl, by decide +kernel⟩ ?$hw ?$hc)
local macro_rules | `(tactic| o_law) => `(tactic| refine holds_law (by kernel_rfl) fun _ => ?_)
open_top hdOg for PySem.Challenge.rw_og0067_01
end
namespace Og
open PySem PySem.Spec PySem.Calls PyProof.Rows PySem.W PySem.SeqAt
local macro_rules | `(tactic| walk_at $s:str) => `(tactic| k_extra $s)
local macro_rules | `(tactic| k_mem) => `(tactic| k_extra "og_mem")
local macro_rules | `(tactic| k_ne) => `(tactic| k_extra "og_ne")
local macro_rules | `(tactic| k_all) => `(tactic| k_extra "og_all")
local macro_rules | `(tactic| k_lt $_) => `(tactic| k_extra "og_klt")
theorem rulesOgBase : True := by
  w_top off
  k_with_none
  k_with "spliced" => ((with_reducible show wpAny _ _ (spliced (backTo _ (starEach (_ :: _) _))) _ _ _); k_dflt (refine' args_at ?ogF ?ogk ?ogv ?_; (case ogF => k_asm); (case ogk => rfl); (case ogv => rfl)); k_whole)
  k_with "newTuple" => (k_dflt (refine' newtup_at ?ogF ?ogN ?_ ?ogz; (case ogF => k_asm); (case ogN => k_asm); (case ogz => kmk_size)); intro D' h' F' N' l1; (try k_lt l1); (try k_sweep); (try (revert D' h' F' N' l1; intros)))
  k_with "eval Tuple" => (k_dflt (refine' tup_at ?ogF ?ogN ?ogk ?ogv ?ogz ?_; (case ogN => k_asm); (case ogF => k_asm); (case ogk => rfl); (case ogv => rfl); (case ogz => kmk_size)); k_whole; intro D' h' F' N' l1; (try k_lt l1); (try k_sweep); (try (revert D' h' F' N' l1; intros)))
  k_with "storeName" => (k_dflt (refine' store_at ?ogF ?ogN ?_ ?oga ?ogb; (case ogF => k_asm); (case ogN => k_asm); (case oga => rfl); (case ogb => rfl)); k_whole; intro h' F' N'; (try k_sweep); (try (revert h' F' N'; intros)))
  k_with "eval Constant int" => refine int_at ?_
  k_with "eval Constant str" => refine str_at ?_
  k_with "eval Call" => (k_dflt (first | (refine' callK_at ?ogF ?ogX ?ogT ?oge ?ogf ?ogk ?ogg ?ogd ?ogv ?_; (case ogX => k_asm); (case ogT => k_asm); (case oge => k_is); (case ogf => k_is); (case ogg => rfl); (case ogd => rfl); (case ogF => k_asm); (case ogk => rfl); (case ogv => rfl); k_whole) | (refine' callB_at ?ogF ?ogX ?ogT ?oge ?ogb ?ogi ?ogn ?ogk ?ogg ?ogd ?ogv ?_; (case ogX => k_asm); (case ogT => k_asm); (case oge => k_is); (case ogb => boot_fast); (case ogi => rfl); (case ogn => decide); (case ogg => rfl); (case ogd => rfl); (case ogF => k_asm); (case ogk => rfl); (case ogv => rfl); k_whole)))
  k_with "eval Subscript" => (k_dflt (refine' sub_at ?ogF ?ogk ?ogv ?ogw ?_; (case ogF => k_asm); (case ogk => rfl); (case ogv => rfl); (case ogw => rfl)); k_whole)
  k_with "ite" => (k_closed; k_dflt (first | refine iteT rfl ?_ | refine iteF rfl ?_))
  k_with "isTrue Compare" => (k_dflt (refine' cmp_at ?ogF ?ogk ?ogv ?ogw ?ogb ?_; (case ogF => k_asm); (case ogk => rfl); (case ogv => rfl); (case ogw => rfl); (case ogb => rfl)); k_whole)
  k_with "execs cons" => ((with_reducible refine wpAny_execs_cons ?_); (try dsimp only); (try clear qk ek); (try k_fold))
  k_with "og_mem" => first | with_reducible assumption | (refine memI ?_; with_reducible assumption) | (refine List.mem_append_right _ ?_; k_mem) | (refine List.mem_append_left _ ?_; k_mem)
  k_with "og_neo" => first | exact neLt (by assumption) (by k_mem) | exact neGt (by assumption) (by k_mem) | (refine neN ?_; (try dsimp only); omega)
  k_with "og_ne" => first | assumption | exact Ne.symm (by assumption) | (k_extra "og_neo")
  k_with "og_all" => first | assumption | exact neAll (by assumption) (fun _ h => h) | exact neAll (by assumption) (by intro p hp; k_mem) | exact off1 (by assumption) (by assumption) | exact LCg_lt (by assumption) | exact offL (by assumption) (by k_mem) | exact off_tup (by assumption) (by assumption) (by intro p hp; k_mem) (by k_mem) | (refine List.forall_mem_append.mpr ⟨?_, ?_⟩ <;> k_all) | exact off1 (by assumption) (by omega)
  trivial
theorem memI {p : Addr × Obj} {l : List (Addr × Obj)} (h : p ∈ l) : List.Mem p l := h
theorem iteT {b : Bool} {x y : Prop} [Decidable (b = true)] (h : b = true) (k : x) : if b = true then x else y := by rw [if_pos h]; exact k
theorem iteF {b : Bool} {x y : Prop} [Decidable (b = true)] (h : b = false) (k : y) : if b = true then x else y := by rw [if_neg (by rw [h]; decide)]; exact k
theorem al5 {P : Nat → Prop} {a b c d e : Nat} (h1 : P a) (h2 : P b) (h3 : P c) (h4 : P d) (h5 : P e) : ∀ x ∈ [a, b, c, d, e], P x :=
  List.forall_mem_cons.mpr ⟨h1, List.forall_mem_cons.mpr ⟨h2, List.forall_mem_cons.mpr ⟨h3, List.forall_mem_cons.mpr ⟨h4, List.forall_mem_cons.mpr ⟨h5, List.forall_mem_nil _⟩⟩⟩⟩⟩
theorem al3 {P : Nat → Prop} {a b c : Nat} (h1 : P a) (h2 : P b) (h3 : P c) : ∀ x ∈ [a, b, c], P x :=
  List.forall_mem_cons.mpr ⟨h1, List.forall_mem_cons.mpr ⟨h2, List.forall_mem_cons.mpr ⟨h3, List.forall_mem_nil _⟩⟩⟩
theorem dmk {x y d : Nat} (h : y + 5 * (d + 1) < 800) (e : x = y + 1) : x + 5 * d + 1 < 800 := by omega
theorem umk {x y d : Nat} (h : y + 20 * (d + 1) < 4500) (e : x = y + 3) : x + 20 * d + 3 < 4500 := by omega
theorem drk {x y d : Nat} (h : y + 5 * (d + 1) < 800) (e : x = y + 1) : x + 3 < 880 := by omega
theorem urk {x y d : Nat} (h : y + 20 * (d + 1) < 4500) (e : x = y + 3) : x + 9 < 4900 := by omega
theorem drk0 {x y d : Nat} (h : y + 5 * (d + 1) < 800) (e : x = y + 1) : x < 900 := by omega
theorem urk0 {x y d : Nat} (h : y + 20 * (d + 1) < 4500) (e : x = y + 3) : x < 5000 := by omega
theorem dlt {x y a b j k n : Nat} (h : y + a < b) (e : x = y + j) (c : Nat.ble (b + j + k) (n + a) = true) : x + k < n := by
  subst e; have := Nat.le_of_ble_eq_true c; omega
theorem dlt0 {x y a b j n : Nat} (h : y + a < b) (e : x = y + j) (c : Nat.ble (b + j) (n + a) = true) : x < n := by
  subst e; have := Nat.le_of_ble_eq_true c; omega
theorem dle {x y b j k n : Nat} (h : y ≤ b) (e : x = y + j) (c : Nat.ble (b + j + k + 1) n = true) : x + k < n := by
  subst e; have := Nat.le_of_ble_eq_true c; omega
theorem dle0 {x y b j n : Nat} (h : y ≤ b) (e : x = y + j) (c : Nat.ble (b + j + 1) n = true) : x < n := by
  subst e; have := Nat.le_of_ble_eq_true c; omega
theorem dlq {x y b j k n : Nat} (h : y ≤ b) (e : x = y + j) (c : Nat.ble (b + j + k) n = true) : x + k ≤ n := by
  subst e; have := Nat.le_of_ble_eq_true c; omega
theorem dlq0 {x y b j n : Nat} (h : y ≤ b) (e : x = y + j) (c : Nat.ble (b + j) n = true) : x ≤ n := by
  subst e; have := Nat.le_of_ble_eq_true c; omega
theorem neLt {a b : Nat} {o : Obj} {led : List (Addr × Obj)} (h : ∀ p ∈ led, p.1 < b) (m : (a, o) ∈ led) : (@Ne Nat a b) := Nat.ne_of_lt (h _ m)
theorem neGt {a b : Nat} {o : Obj} {led : List (Addr × Obj)} (h : ∀ p ∈ led, p.1 < b) (m : (a, o) ∈ led) : (@Ne Nat b a) := Nat.ne_of_gt (h _ m)
theorem neAll {b : Nat} {led l : List (Addr × Obj)} (h : ∀ p ∈ led, p.1 < b) (s : ∀ p ∈ l, p ∈ led) : ∀ p ∈ l, p.1 ≠ b := fun p hp => Nat.ne_of_lt (h p (s p hp))

structure Base (w : World) (G : Heap) : Prop where
  X : (hdOg.heap_1 w.params).In G
  T : ∃ p loose mean mg mb, Top p loose mean mg mb G
  C : CodeAll [(64, 60), (50, 46), (31, 27), (110, 106)] G

theorem codeAll_mem {h : Heap} : ∀ {tabs : List (Addr × Addr)}, CodeAll tabs h → ∀ q ∈ tabs, CodeHd h q.1 q.2
  | _ :: _, x, _, .head _ => x.1
  | _ :: _, x, _, .tail _ m => codeAll_mem x.2 _ m

theorem Base.keeps {w : World} {G g : Heap} (B : Base w G) (k : G.StaysIn g) : Base w g where
  X := B.X.keeps k
  T := let ⟨p, l, m, mg, mb, T⟩ := B.T; ⟨p, l, m, mg, mb, T.keeps k⟩
  C := CodeAll.of fun q hq => (codeAll_mem B.C q hq).keeps k

section
variable {prog : Program} {w : World} {A : Around} {s : Shared} {G : Heap} {R : Result → Shared → Prop}

theorem hide_or {h : Heap} (as : List Addr) {b : Addr} (hb : b ∈ as) : (hideAll h as).get? b = none := hideAll_none as hb

/-- entering a plain def: the objects of the ledger are hidden from the base -/
theorem enter {name qual : Str} {params : Arguments} {body : List Stmt} {scope : Scope} {dV kV doc pm cdv ct oc : Value} {an od : Option Addr} {osl : Array (Option Value)} {f : Addr} {args : Args} {binds : List (Str × Value)}
    (B : Base w G) (kp : G.StaysIn s.heap) (led : List (Addr × Obj)) (hl : ∀ p ∈ led, s.heap.get? p.1 = some p.2 ∧ G.get? p.1 = none)
    (ho : (hdOg.heap_1 w.params).lookup f = some ⟨oc, od, .func (fnOf name qual params body scope dV kV doc pm an cdv ct), osl⟩) (hcd : codeIn (hdOg.heap_1 w.params) cdv qual = true) (hroom : A.depth < recursionLimit)
    (hbind : BindsTo s (fnOf name qual params body scope dV kV doc pm an cdv ct) args binds) (hloc : ∀ y ∈ binds, scope.names.lookup y.1 = some .local)
    (hcell : ∀ x ∈ scope.names, x.2 ≠ .cell)
    (h : ∀ g h₁, (∀ b o, s.heap.get? b = some o → b ∉ led.map (·.1) → g.get? b = some o) → (∀ b o, g.get? b = some o → s.heap.get? b = some o) →
      Fr g s.heap.objs.size h₁ (fun y => binds.reverse.lookup y) → News g s.heap.objs.size h₁ led → Base w g → 
      wpAny (model prog w) (A.deeper (envOf qual scope s.heap.objs.size f cdv)) (execs body (envOf qual scope s.heap.objs.size f cdv))
        (fun fl s' => R (.ok (.ret (match fl with | .ret v => v | _ => .none))) s') (fun _ _ => False) { s with heap := h₁, toks := s.toks + binds.length })
    (hco : scope.isCoroutine = false := by rfl) (hgen : scope.isGenerator = false := by rfl) (hk : scope.kind = .function := by rfl) :
    codeAny (model prog w) A (.call (.ref f) args) R s := by
  obtain ⟨p, loose, mean, mg, mb, T⟩ := B.T
  have nm : ∀ b o, G.get? b = some o → b ∉ led.map (·.1) := fun b o e q => by
    obtain ⟨p, hp, rfl⟩ := List.mem_map.mp q
    rw [(hl p hp).2] at e; cases e
  have st : G.StaysIn (hideAll s.heap (led.map (·.1))) := fun b o e => hideAll_get _ (kp b o e) (nm b o e)
  refine codeAny_call_def (fd := fnOf name qual params body scope dV kV doc pm an cdv ct) (body := body) (binds := binds) hroom (kp _ _ (B.X _ _ ho)) rfl (T.nolimit.keeps kp) (codeRec_of (B.X.keeps kp) hcd) rfl hbind hcell hloc (fun h₁ hns hk₁ => ?_) hco hgen hk
  refine wpAny_mono (h (hideAll s.heap (led.map (·.1))) h₁ (fun b o e nb => hideAll_get _ e nb) (fun b o e => of_hideAll _ e) ⟨hns, fun b o e => hk₁ b o (of_hideAll _ e), Nat.le_of_eq (hideAll_size _ _)⟩ ?_ (B.keeps st)) (fun _ _ y => y) (fun _ _ y => y.elim)
  · exact fun p hp => ⟨hk₁ _ _ (hl p hp).1, Nat.ne_of_lt (Heap.lt_size (hl p hp).1), hideAll_none _ (List.mem_map_of_mem hp)⟩

/-- entering a def whose names lie in cells -/
theorem enterC {name qual : Str} {params : Arguments} {body : List Stmt} {scope : Scope} {dV kV doc pm cdv ct oc : Value} {an od : Option Addr} {osl : Array (Option Value)} {f : Addr} {args : Args} {binds : List (Str × Value)}
    (B : Base w G) (kp : G.StaysIn s.heap) (led : List (Addr × Obj)) (hl : ∀ p ∈ led, s.heap.get? p.1 = some p.2 ∧ G.get? p.1 = none)
    (ho : (hdOg.heap_1 w.params).lookup f = some ⟨oc, od, .func (fnOf name qual params body scope dV kV doc pm an cdv ct), osl⟩) (hcd : codeIn (hdOg.heap_1 w.params) cdv qual = true) (hroom : A.depth < recursionLimit)
    (hbind : BindsTo s (fnOf name qual params body scope dV kV doc pm an cdv ct) args binds) (hkind : (binds.all fun y => scope.names.lookup y.1 == some .local || scope.names.lookup y.1 == some .cell) = true)
    (hnd : ((cellsFrom 0 scope.names []).map (·.1)).Nodup)
    (h : ∀ g h₁ tk cells, (∀ b o, s.heap.get? b = some o → b ∉ led.map (·.1) → g.get? b = some o) → (∀ b o, g.get? b = some o → s.heap.get? b = some o) →
      Fr g s.heap.objs.size h₁ (bindL (envOfC qual scope s.heap.objs.size f cdv).kindOf binds fun _ => none) → News g s.heap.objs.size h₁ (cells ++ led) →
      CellsAre (bindC (envOfC qual scope s.heap.objs.size f cdv).kindOf binds fun _ => none) (cellsFrom (s.heap.objs.size + 1) scope.names []) cells → (∀ p ∈ led, p.1 < s.heap.objs.size) → Base w g → 
      wpAny (model prog w) (A.deeper (envOfC qual scope s.heap.objs.size f cdv)) (execs body (envOfC qual scope s.heap.objs.size f cdv))
        (fun fl s' => R (.ok (.ret (match fl with | .ret v => v | _ => .none))) s') (fun _ _ => False) { s with heap := h₁, toks := tk })
    (hco : scope.isCoroutine = false := by rfl) (hgen : scope.isGenerator = false := by rfl) (hk : scope.kind = .function := by rfl) :
    codeAny (model prog w) A (.call (.ref f) args) R s := by
  obtain ⟨p, loose, mean, mg, mb, T⟩ := B.T
  have nm : ∀ b o, G.get? b = some o → b ∉ led.map (·.1) := fun b o e q => by
    obtain ⟨p, hp, rfl⟩ := List.mem_map.mp q
    rw [(hl p hp).2] at e; cases e
  have st : G.StaysIn (hideAll s.heap (led.map (·.1))) := fun b o e => hideAll_get _ (kp b o e) (nm b o e)
  refine codeAny_call_function hroom (kp _ _ (B.X _ _ ho)) rfl hco hgen rfl (codeRec_of (B.X.keeps kp) hcd) (hbind _ _ _ _ ?_)
  refine wpAny_newFunctionEnv_cells hk (kindsX hkind _) fun env' he s' x => ?_
  subst he
  refine ⟨(T.nolimit.keeps kp).keeps x.toInCall.keep, codeAny_func ?_⟩
  obtain ⟨h₁, tk, rfl, _⟩ := x.done
  have hk₁ := x.toInCall.keep
  obtain ⟨cells, NC, Y⟩ := Cl.news (h₀ := s.heap) (Nat.le_refl _) fun n c hm => ⟨x.cell n c (lookup_of_mem_nodup (cellsFrom_names scope.names 0 (s.heap.objs.size + 1) [] [] rfl ▸ hnd) hm), x.above n c hm⟩
  refine wpAny_mono (h (hideAll s.heap (led.map (·.1))) h₁ tk cells (fun b o e nb => hideAll_get _ e nb) (fun b o e => of_hideAll _ e) ⟨x.toInCall.ns, fun b o e => hk₁ b o (of_hideAll _ e), Nat.le_of_eq (hideAll_size _ _)⟩ (fun p hp => ?_) Y (fun p hp => Heap.lt_size (hl p hp).1) (B.keeps st)) (fun _ _ y => y) (fun _ _ y => y.elim)
  rcases List.mem_append.mp hp with hp | hp
  · refine ⟨(NC p hp).1, (NC p hp).2.1, ?_⟩
    cases q : (hideAll s.heap (led.map (·.1))).get? p.1 with
    | none => rfl
    | some o => have := of_hideAll _ q; rw [(NC p hp).2.2] at this; cases this
  · exact ⟨hk₁ _ _ (hl p hp).1, Nat.ne_of_lt (Heap.lt_size (hl p hp).1), hideAll_none _ (List.mem_map_of_mem hp)⟩
end
/-- an expression that a name or a literal answers, read at once -/
noncomputable def constV (t : Nat) : Const → Option (Value × Nat)
  | .int i => some (.int i t, t + 1)
  | .str x => some (.str x t, t + 1)
  | .none => some (.none, t)
  | .bool b => some (.bool b, t)
  | _ => none
noncomputable def atomV (env : Env) (m : Str → Option Value) (t : Nat) : Expr → Option (Value × Nat)
  | .Constant c _ _ => constV t c
  | .Name x _ => if env.kindOf x = some .local then if (x == Str.ofString "__debug__") = false then (m x).map fun v => (v, t) else none else none
  | _ => none
noncomputable def atomsV (env : Env) (m : Str → Option Value) : List Expr → Nat → Option (List Value × Nat)
  | [], t => some ([], t)
  | e :: r, t => (atomV env m t e).bind fun p => (atomsV env m r p.2).map fun q => (p.1 :: q.1, q.2)
section
variable {M : Model} {A : Around} {E : Value → Shared → Prop} {s : Shared} {h₀ : Heap} {L a : Addr} {m : Str → Option Value} {cn : Str} {cs : Scope} {ccd : Value} {cl : List (Str × Addr)} {pos : Pos}
theorem no_some {α : Type} {x : α} {P : Prop} (h : (none : Option α) = some x) : P := nomatch h
theorem const_at {c : Const} {k : Nat} {env : Env} {v : Value} {t : Nat} {Q : Value → Shared → Prop} (hv : constV s.toks c = some (v, t)) (h : Q v { s with toks := t }) : wpAny M A (eval (.Constant c k pos) env) Q E s := by
  cases c
  case int => cases hv; exact wpAny_Constant_int h
  case str => cases hv; exact Calls.Constant_str h
  case none => cases hv; exact wpAny_Constant_none h
  case bool => cases hv; exact wpAny_Constant_bool h
  all_goals exact no_some hv
theorem name_at {x : Str} {v : Value} {t : Nat} {Q : Value → Shared → Prop} (F : Fr h₀ L s.heap m) (hk : cs.kind = .function)
    (hv : (if (envX cn cs L a ccd cl).kindOf x = some .local then if (x == Str.ofString "__debug__") = false then (m x).map fun v => (v, s.toks) else none else none) = some (v, t)) (h : Q v { s with toks := t }) : wpAny M A (eval (.Name x pos) (envX cn cs L a ccd cl)) Q E s := by
  by_cases hc : (envX cn cs L a ccd cl).kindOf x = some .local
  · rw [if_pos hc] at hv
    by_cases hd : (x == Str.ofString "__debug__") = false
    · rw [if_pos hd] at hv
      obtain ⟨y, hm, e⟩ := Option.map_eq_some_iff.mp hv
      cases e
      exact nameX_L F hm h hk hc hd
    · rw [if_neg hd] at hv; exact no_some hv
  · rw [if_neg hc] at hv; exact no_some hv
theorem atom_at {e : Expr} {v : Value} {t : Nat} {Q : Value → Shared → Prop} (F : Fr h₀ L s.heap m) (hk : cs.kind = .function) (hv : atomV (envX cn cs L a ccd cl) m s.toks e = some (v, t)) (h : Q v { s with toks := t }) :
    wpAny M A (eval e (envX cn cs L a ccd cl)) Q E s := by
  cases e
  case Constant => exact const_at hv h
  case Name => exact name_at F hk hv h
  all_goals exact no_some hv
theorem atom_each {env : Env} {e : Expr} {v : Value × Nat} {t : Nat} (rest : List Expr) (hv : atomV env m t e = some v) : starEach (e :: rest) env = (false, eval e env) :: starEach rest env := by
  cases e
  case Constant => rfl
  case Name => rfl
  all_goals exact no_some hv
theorem args_at0 {es : List Expr} {vs : List Value} {t : Nat} {Q : List Value → Shared → Prop} (F : Fr h₀ L s.heap m) (hk : cs.kind = .function) (hv : atomsV (envX cn cs L a ccd cl) m es s.toks = some (vs, t)) (h : Q vs { s with toks := t }) :
    wpAny M A (spliced (backTo pos (starEach es (envX cn cs L a ccd cl)))) Q E s := by
  induction es generalizing s vs Q with
  | nil => cases hv; exact args_nil h
  | cons e r ih =>
    simp only [atomsV] at hv
    obtain ⟨⟨v, t1⟩, h1, h2⟩ := Option.bind_eq_some_iff.mp hv
    obtain ⟨⟨vs', t2⟩, h3, h4⟩ := Option.map_eq_some_iff.mp h2
    cases h4
    exact args_cons (atom_at F hk h1 (ih (s := { s with toks := t1 }) F h3 h)) (atom_each r h1)
variable {h : Heap} {gn : Array GenState} {dr : Drawn} {tk : Nat} {os : OsState}
theorem args_at {es : List Expr} {vs : List Value} {t : Nat} {Q : List Value → Shared → Prop} (F : Fr h₀ L h m) (hk : cs.kind = .function) (hv : atomsV (envX cn cs L a ccd cl) m es tk = some (vs, t)) (r : Q vs ⟨h, gn, dr, t, os⟩) :
    wpAny M A (spliced (backTo pos (starEach es (envX cn cs L a ccd cl)))) Q E ⟨h, gn, dr, tk, os⟩ := args_at0 F hk hv r
theorem int_at {env : Env} {i : Int} {k : Nat} {Q : Value → Shared → Prop} (r : Q (.int i tk) ⟨h, gn, dr, tk + 1, os⟩) : wpAny M A (eval (.Constant (.int i) k pos) env) Q E ⟨h, gn, dr, tk, os⟩ := wpAny_Constant_int r
theorem str_at {env : Env} {i : Str} {k : Nat} {Q : Value → Shared → Prop} (r : Q (.str i tk) ⟨h, gn, dr, tk + 1, os⟩) : wpAny M A (eval (.Constant (.str i) k pos) env) Q E ⟨h, gn, dr, tk, os⟩ := Calls.Constant_str r
theorem newtup_at {news : List (Addr × Obj)} {vs : List Value} {Q : Value → Shared → Prop} (F : Fr h₀ L h m) (N : News h₀ L h news)
    (r : ∀ D h', Fr h₀ L h' m → News h₀ L h' ((D, { cls := .type "tuple", data := .seq vs.toArray }) :: news) → (∀ p ∈ news, p.1 < D) → Q (.ref D) ⟨h', gn, dr, tk, os⟩) (hz : vs.length ≤ sizeLine) :
    wpAny M A (newTuple vs) Q E ⟨h, gn, dr, tk, os⟩ := kup_newTuple F N r hz
theorem tup_at {news : List (Addr × Obj)} {es : List Expr} {vs : List Value} {t k : Nat} {Q : Value → Shared → Prop} (F : Fr h₀ L h m) (N : News h₀ L h news) (hk : cs.kind = .function) (hv : atomsV (envX cn cs L a ccd cl) m es tk = some (vs, t)) (hz : vs.length ≤ sizeLine)
    (r : ∀ D h', Fr h₀ L h' m → News h₀ L h' ((D, { cls := .type "tuple", data := .seq vs.toArray }) :: news) → (∀ p ∈ news, p.1 < D) → Q (.ref D) ⟨h', gn, dr, t, os⟩) :
    wpAny M A (eval (.Tuple es k pos) (envX cn cs L a ccd cl)) Q E ⟨h, gn, dr, tk, os⟩ :=
  Tuple_ (args_at F hk hv (kup_newTuple F N r hz))
theorem store_at {x : Str} {v : Value} {Q : Unit → Shared → Prop} {news : List (Addr × Obj)} (F : Fr h₀ L h m) (N : News h₀ L h news)
    (r : ∀ h', Fr h₀ L h' (fun y => if y = x then some v else m y) → News h₀ L h' news → Q () ⟨h', gn, dr, tk + 1, os⟩) (hk : cs.kind = .function) (hl : (envX cn cs L a ccd cl).kindOf x = some .local) :
    wpAny M A (storeName (envX cn cs L a ccd cl) x v) Q E ⟨h, gn, dr, tk, os⟩ := storeX_L F N r hk hl
theorem atoms_any {env : Env} {t : Nat} : ∀ {es : List Expr} {r : List Value × Nat} {t : Nat}, atomsV env m es t = some r → ((backTo pos (starEach es env)).any fun x => x.1) = false
  | [], _, _, _ => rfl
  | e :: es, _, t, h => by
    simp only [atomsV] at h
    obtain ⟨⟨v, t1⟩, h1, h2⟩ := Option.bind_eq_some_iff.mp h
    obtain ⟨_, h3, _⟩ := Option.map_eq_some_iff.mp h2
    rw [atom_each es h1]
    exact atoms_any (env := env) (t := t1) h3
theorem callK_at {K : Frag} {mg mb : Str → Option Value} {p : Program} {loose : List Str} {f : Str} {fp : Pos} {fv : Value} {e : Expr} {es : List Expr} {vs : List Value} {t : Nat} {Q : Value → Shared → Prop}
    (F : Fr h₀ L h m) (X : K.In h₀) (T : TopRead p loose mg mb h₀) (he : nsIn K mainGlobals f = some (some fv)) (hf : keepIn K fv = true) (hk : cs.kind = .function) (hg : (envX cn cs L a ccd cl).kindOf f = some .globalImplicit) (hd : (f == Str.ofString "__debug__") = false)
    (hv : atomsV (envX cn cs L a ccd cl) m (e :: es) tk = some (vs, t)) (r : wpAny M A (call fv vs []) Q E ⟨h, gn, dr, t, os⟩) :
    wpAny M A (eval (.Call (.Name f fp) (e :: es) [] pos) (envX cn cs L a ccd cl)) Q E ⟨h, gn, dr, tk, os⟩ := by
  refine Call_ (nameX_K F X T he ?_ hk hg hd)
  have q := hv
  simp only [atomsV] at q
  obtain ⟨⟨v, t1⟩, h1, h2⟩ := Option.bind_eq_some_iff.mp q
  obtain ⟨_, h3, _⟩ := Option.map_eq_some_iff.mp h2
  exact callWith_K X hf (args_at F hk hv ⟨X.keeps F.keep, r⟩) (atom_each es h1) (atoms_any (t := tk) h3)
theorem callB_at {K : Frag} {mg mb : Str → Option Value} {p : Program} {loose : List Str} {f : Str} {fp : Pos} {id : String} {fv : Value} {e : Expr} {es : List Expr} {vs : List Value} {t : Nat} {Q : Value → Shared → Prop}
    (F : Fr h₀ L h m) (X : K.In h₀) (T : TopRead p loose mg mb h₀) (he : nsIn K mainGlobals f = some none) (hb : bootBuiltins f = some fv) (hi : fv = .builtin id) (hn : f ≠ Str.ofString "__name__") (hk : cs.kind = .function) (hg : (envX cn cs L a ccd cl).kindOf f = some .globalImplicit) (hd : (f == Str.ofString "__debug__") = false)
    (hv : atomsV (envX cn cs L a ccd cl) m (e :: es) tk = some (vs, t)) (r : wpAny M A (call (.builtin id) vs []) Q E ⟨h, gn, dr, t, os⟩) :
    wpAny M A (eval (.Call (.Name f fp) (e :: es) [] pos) (envX cn cs L a ccd cl)) Q E ⟨h, gn, dr, tk, os⟩ := by
  subst hi
  refine Call_ (nameX_B F X T he hb hn ?_ hk hg hd)
  have q := hv
  simp only [atomsV] at q
  obtain ⟨⟨v, t1⟩, h1, h2⟩ := Option.bind_eq_some_iff.mp q
  obtain ⟨_, h3, _⟩ := Option.map_eq_some_iff.mp h2
  exact callWith_builtin1 (args_at F hk hv r) (atom_each es h1) (atoms_any (t := tk) h3)
theorem sub_at {value slice : Expr} {o i : Value} {t t' : Nat} {Q : Value → Shared → Prop} (F : Fr h₀ L h m) (hk : cs.kind = .function) (ho : atomV (envX cn cs L a ccd cl) m tk value = some (o, t)) (hi : atomV (envX cn cs L a ccd cl) m t slice = some (i, t'))
    (r : wpAny M A (subscriptTail value slice o i) Q E ⟨h, gn, dr, t', os⟩) : wpAny M A (eval (.Subscript value slice pos) (envX cn cs L a ccd cl)) Q E ⟨h, gn, dr, tk, os⟩ :=
  Subscript_ (atom_at (s := ⟨h, gn, dr, tk, os⟩) F hk ho (atom_at (s := ⟨h, gn, dr, t, os⟩) F hk hi r))
theorem cmp_at {l r' : Expr} {op : CmpOp} {whole : Sem Value} {x y : Value} {t t' : Nat} {Q : Bool → Shared → Prop} (F : Fr h₀ L h m) (hk : cs.kind = .function) (hx : atomV (envX cn cs L a ccd cl) m tk l = some (x, t)) (hy : atomV (envX cn cs L a ccd cl) m t r' = some (y, t')) (hb : behindInMarks op r' = false)
    (r : wpAny M A (compareOp op x y) (fun c s => wpAny M A (truthy c) Q E s) E ⟨h, gn, dr, t', os⟩) : wpAny M A (isTrue (.Compare l [op] [r'] pos) (envX cn cs L a ccd cl) whole) Q E ⟨h, gn, dr, tk, os⟩ :=
  wpAny_isTrue_Compare1 (atom_at (s := ⟨h, gn, dr, tk, os⟩) F hk hx (atom_at (s := ⟨h, gn, dr, t, os⟩) F hk hy r)) hb
theorem newtup_le {news : List (Addr × Obj)} {vs : List Value} {Q : Value → Shared → Prop} (F : Fr h₀ L h m) (N : News h₀ L h news)
    (r : ∀ D h', let led' := (D, { cls := .type "tuple", data := .seq vs.toArray }) :: news; Fr h₀ L h' m → News h₀ L h' led' → (∀ p ∈ news, p.1 < D) → Q (.ref D) ⟨h', gn, dr, tk, os⟩) (hz : vs.length ≤ sizeLine) :
    wpAny M A (newTuple vs) Q E ⟨h, gn, dr, tk, os⟩ := kup_newTuple F N r hz
theorem tup_le {news : List (Addr × Obj)} {es : List Expr} {vs : List Value} {t k : Nat} {Q : Value → Shared → Prop} (F : Fr h₀ L h m) (N : News h₀ L h news) (hk : cs.kind = .function) (hv : atomsV (envX cn cs L a ccd cl) m es tk = some (vs, t)) (hz : vs.length ≤ sizeLine)
    (r : ∀ D h', let led' := (D, { cls := .type "tuple", data := .seq vs.toArray }) :: news; Fr h₀ L h' m → News h₀ L h' led' → (∀ p ∈ news, p.1 < D) → Q (.ref D) ⟨h', gn, dr, t, os⟩) :
    wpAny M A (eval (.Tuple es k pos) (envX cn cs L a ccd cl)) Q E ⟨h, gn, dr, tk, os⟩ :=
  Tuple_ (args_at F hk hv (kup_newTuple F N r hz))
theorem store_le {x : Str} {v : Value} {Q : Unit → Shared → Prop} {news : List (Addr × Obj)} (F : Fr h₀ L h m) (N : News h₀ L h news)
    (r : ∀ h', let m' := fun y => if y = x then some v else m y; Fr h₀ L h' m' → News h₀ L h' news → Q () ⟨h', gn, dr, tk + 1, os⟩) (hk : cs.kind = .function) (hl : (envX cn cs L a ccd cl).kindOf x = some .local) :
    wpAny M A (storeName (envX cn cs L a ccd cl) x v) Q E ⟨h, gn, dr, tk, os⟩ := storeX_L F N r hk hl
theorem append_le {prog : Program} {w : World} {D : Addr} {xs : List Value} {n : Nat} {x : Value} {news news' : List (Addr × Obj)} {Q : Value → Shared → Prop} (F : Fr h₀ L h m) (N : News h₀ L h news) (U : Upd D (listOf xs.toArray n) (listOf (xs ++ [x]).toArray (n + 1)) news news')
    (r : ∀ h', let led' := news'; Fr h₀ L h' m → News h₀ L h' led' → Q .none ⟨h', gn, dr, tk, os⟩) (hsz : xs.length ≤ 100000) : wpAny (model prog w) A (call (.builtin "list.append") [.ref D, x]) Q E ⟨h, gn, dr, tk, os⟩ :=
  append_K F N (by rw [List.push_toArray]; exact U) r (Nat.le_trans (Nat.le_of_eq List.size_toArray) (Nat.le_trans hsz (by decide +kernel)))
end
/-- the way of a def without cells, from its statement k on -/
noncomputable def CodeFrom (f : Nat) (prog : Program) (w : World) (k : Nat) (A : Around) (L : Nat) (Q : Flow → Shared → Prop) (E : Value → Shared → Prop) (s : Shared) : Prop :=
  ∀ (name qual : Str) (params : Arguments) (body : List Stmt) (scope : Scope) (dV kV doc pm cdv ct oc : Value) (an od : Option Addr) (osl : Array (Option Value)),
    (hdOg.heap_1 w.params).lookup f = some ⟨oc, od, .func (fnOf name qual params body scope dV kV doc pm an cdv ct), osl⟩ →
    wpAny (model prog w) (A.deeper (envOf qual scope L f cdv)) (execs (body.drop k) (envOf qual scope L f cdv)) Q E s
theorem CodeFrom.intro {f : Nat} {prog : Program} {w : World} {k : Nat} {A : Around} {L : Nat} {Q : Flow → Shared → Prop} {E : Value → Shared → Prop} {s : Shared}
    {name qual : Str} {params : Arguments} {body : List Stmt} {scope : Scope} {dV kV doc pm cdv ct oc : Value} {an od : Option Addr} {osl : Array (Option Value)}
    (ho : (hdOg.heap_1 w.params).lookup f = some ⟨oc, od, .func (fnOf name qual params body scope dV kV doc pm an cdv ct), osl⟩)
    (h : (hdOg.heap_1 w.params).lookup f = some ⟨oc, od, .func (fnOf name qual params body scope dV kV doc pm an cdv ct), osl⟩ →
      wpAny (model prog w) (A.deeper (envOf qual scope L f cdv)) (execs (body.drop k) (envOf qual scope L f cdv)) Q E s) : CodeFrom f prog w k A L Q E s := by
  intro name' qual' params' body' scope' dV' kV' doc' pm' cdv' ct' oc' an' od' osl' ho'
  have e := ho.symm.trans ho'
  injection e with e
  injection e with _ _ e _
  injection e with e
  injection e with e1 e2 e3 e4 e5 e6 e7 e8 e9 e10 e11
  injection e4 with e4
  subst_vars
  exact h ho
theorem CodeFrom.out {f : Nat} {prog : Program} {w : World} {k : Nat} {A : Around} {L : Nat} {Q : Flow → Shared → Prop} {E : Value → Shared → Prop} {s : Shared}
    {name qual : Str} {params : Arguments} {body : List Stmt} {scope : Scope} {dV kV doc pm cdv ct oc : Value} {an od : Option Addr} {osl : Array (Option Value)}
    (h : CodeFrom f prog w k A L Q E s) (ho : (hdOg.heap_1 w.params).lookup f = some ⟨oc, od, .func (fnOf name qual params body scope dV kV doc pm an cdv ct), osl⟩) :
    wpAny (model prog w) (A.deeper (envOf qual scope L f cdv)) (execs (body.drop k) (envOf qual scope L f cdv)) Q E s := h _ _ _ _ _ _ _ _ _ _ _ _ _ _ _ ho
theorem withCode {P : Prop} {f : Nat} {w : World} {name qual : Str} {params : Arguments} {body : List Stmt} {scope : Scope} {dV kV doc pm cdv ct oc : Value} {an od : Option Addr} {osl : Array (Option Value)}
    (ho : (hdOg.heap_1 w.params).lookup f = some ⟨oc, od, .func (fnOf name qual params body scope dV kV doc pm an cdv ct), osl⟩)
    (h : (hdOg.heap_1 w.params).lookup f = some ⟨oc, od, .func (fnOf name qual params body scope dV kV doc pm an cdv ct), osl⟩ → P) : P := h ho
/-- how a def ends -/
noncomputable abbrev endOf (R : Result → Shared → Prop) : Flow → Shared → Prop := fun fl s' => R (.ok (.ret (match fl with | .ret v => v | _ => .none))) s'

structure Tape where
  cells : List Int
  t : Int
noncomputable def dcell (T : Tape) : Int := T.cells.getD (T.t.fmod T.cells.length).toNat 0
noncomputable def dnew (lim : Int) (T : Tape) : Tape :=
  ⟨T.cells.set (T.t.fmod T.cells.length).toNat (if lim < (if dcell T < 0 then - dcell T else dcell T) then (dcell T).fdiv lim else dcell T * 31 + 7 * (T.t + 1)), T.t + 1⟩
noncomputable def dval (lim : Int) (T : Tape) : Int := (dcell T).fmod lim

section
variable {prog : Program} {w : World} {A : Around} {E : Value → Shared → Prop} {s : Shared} {g : Heap} {L D : Addr} {m : Str → Option Value} {led led' : List (Addr × Obj)} {vs : List Value} {ns : List Int} {n : Nat}

theorem isl (N : News g L s.heap led) {its : Array Value} (hm : (D, listOf its n) ∈ led) : s.heap.IsList D its := ⟨_, N.get hm, rfl, n, rfl⟩
theorem len_l {its : Array Value} {Q : Value → Shared → Prop} (N : News g L s.heap led) (hm : (D, listOf its n) ∈ led) (hb : its.size ≤ sizeLine) (h : ∀ t tk, Q (.int its.size t) { s with toks := tk }) :
    wpAny (model prog w) A (call (.builtin "len") [.ref D]) Q E s := len_list (isl N hm) (by have : sizeLine = 2 ^ 24 := rfl; omega) (h _ _)
theorem len_i {Q : Value → Shared → Prop} (N : News g L s.heap led) (hm : (D, listOf vs.toArray n) ∈ led) (hi : IntsAre vs ns) (hb : ns.length ≤ 1000) (h : ∀ t tk, Q (.int ns.length t) { s with toks := tk }) :
    wpAny (model prog w) A (call (.builtin "len") [.ref D]) Q E s := len_l N hm (by have : sizeLine = 2 ^ 24 := rfl; rw [List.size_toArray, hi.length]; omega) (fun t tk => by rw [List.size_toArray, hi.length]; exact h t tk)
theorem set_l {v : Value} {k : Int} {t : Tok} {its its' : List Value} {Q : Unit → Shared → Prop} (F : Fr g L s.heap m) (N : News g L s.heap led) (U : Upd D (listOf its.toArray n) (listOf its'.toArray n) led led') (e : its.set k.toNat v = its')
    (h0 : 0 ≤ k) (hfit : k < 2 ^ 63) (h1 : k < its.length) (h : ∀ h', Fr g L h' m → News g L h' led' → Q () { s with heap := h' }) : wpAny (model prog w) A (setItem (.ref D) (.int k t) v) Q E s := by
  obtain ⟨pre, post, rfl, rfl, a, b⟩ := U.split
  have z := N (D, listOf its.toArray n) (List.mem_append.mpr (.inr (.head _)))
  refine ki_setAt z.1 h0 hfit (by rw [List.size_toArray]; exact h1) (h _ (F.change (Heap.SameBut.update ..) z.2.1 z.2.2) (ki_turn _ N a b ?_ ?_))
  · show its.toArray.setIfInBounds k.toNat v = its'.toArray
    rw [← e]; apply Array.toList_inj.mp; simp
  · rw [← e]; simp
end

inductive D where
  | none
  | bool (b : Bool)
  | int (i : Int)
  | str (s : Str)
  | bytes (b : Array UInt8)
  | tup (ds : List D)

noncomputable abbrev tupOf (vs : List Value) (n : Nat) : Obj := { cls := .type "tuple", data := .seq vs.toArray n }

mutual
inductive Dv (P : Addr → Obj → Prop) : Value → D → Prop
  | none : Dv P Value.none D.none
  | bool (b : Bool) : Dv P (Value.bool b) (D.bool b)
  | int (i : Int) (t : Tok) : Dv P (Value.int i t) (D.int i)
  | str (x : Str) (t : Tok) : Dv P (Value.str x t) (D.str x)
  | bytes (b : Array UInt8) (t : Tok) : Dv P (Value.bytes b t) (D.bytes b)
  | tup {a : Addr} {vs : List Value} {n : Nat} {ds : List D} : P a (tupOf vs n) → Dvs P vs ds → Dv P (Value.ref a) (D.tup ds)
inductive Dvs (P : Addr → Obj → Prop) : List Value → List D → Prop
  | nil : Dvs P [] []
  | cons {v : Value} {vs : List Value} {d : D} {ds : List D} : Dv P v d → Dvs P vs ds → Dvs P (v :: vs) (d :: ds)
end
theorem Dv.mono {P P' : Addr → Obj → Prop} (h : ∀ a vs n, P a (tupOf vs n) → P' a (tupOf vs n)) {v : Value} {d : D} (x : Dv P v d) : Dv P' v d :=
  Dv.rec (motive_1 := fun v d _ => Dv P' v d) (motive_2 := fun vs ds _ => Dvs P' vs ds) .none .bool .int .str .bytes (fun p _ ih => .tup (h _ _ _ p) ih) .nil (fun _ _ a b => .cons a b) x
theorem Dvs.mono {P P' : Addr → Obj → Prop} (h : ∀ a vs n, P a (tupOf vs n) → P' a (tupOf vs n)) {vs : List Value} {ds : List D} (x : Dvs P vs ds) : Dvs P' vs ds :=
  Dvs.rec (motive_1 := fun v d _ => Dv P' v d) (motive_2 := fun vs ds _ => Dvs P' vs ds) .none .bool .int .str .bytes (fun p _ ih => .tup (h _ _ _ p) ih) .nil (fun _ _ a b => .cons a b) x
theorem Dvs.ind {P : Addr → Obj → Prop} {M : List Value → List D → Prop} (n : M [] []) (c : ∀ v vs d ds, Dv P v d → Dvs P vs ds → M vs ds → M (v :: vs) (d :: ds)) {vs : List Value} {ds : List D} (x : Dvs P vs ds) : M vs ds :=
  Dvs.rec (motive_1 := fun _ _ _ => True) (motive_2 := fun vs ds _ => M vs ds) trivial (fun _ => trivial) (fun _ _ => trivial) (fun _ _ => trivial) (fun _ _ => trivial) (fun _ _ _ => trivial) n (fun h r _ ih => c _ _ _ _ h r ih) x
theorem Dvs.length {P : Addr → Obj → Prop} {vs : List Value} {ds : List D} (x : Dvs P vs ds) : vs.length = ds.length := Dvs.ind (M := fun vs ds => vs.length = ds.length) rfl (fun _ _ _ _ _ _ e => congrArg Nat.succ e) x
theorem Dvs.append {P : Addr → Obj → Prop} {vs ws : List Value} {ds es : List D} (x : Dvs P vs ds) (k : Dvs P ws es) : Dvs P (vs ++ ws) (ds ++ es) := Dvs.ind (M := fun vs ds => Dvs P (vs ++ ws) (ds ++ es)) k (fun _ _ _ _ h _ ih => .cons h ih) x
inductive DvTup (P : Addr → Obj → Prop) (ds : List D) : Value → Prop
  | mk (a : Addr) (vs : List Value) (n : Nat) (p : P a (tupOf vs n)) (r : Dvs P vs ds) : DvTup P ds (.ref a)
inductive ConsI (P : Addr → Obj → Prop) (d : D) (ds : List D) : List Value → Prop
  | mk (v : Value) (vs : List Value) (p : Dv P v d) (r : Dvs P vs ds) : ConsI P d ds (v :: vs)
theorem Dv.inv {P : Addr → Obj → Prop} {v : Value} {d : D} (h : Dv P v d) : @D.casesOn (fun _ => Prop) d (v = .none) (fun b => v = .bool b) (fun i => ∃ t, v = .int i t) (fun x => ∃ t, v = .str x t) (fun b => ∃ t, v = .bytes b t) (fun ds => DvTup P ds v) :=
  h.casesOn rfl (fun _ => rfl) (fun _ t => ⟨t, rfl⟩) (fun _ t => ⟨t, rfl⟩) (fun _ t => ⟨t, rfl⟩) (fun p r => ⟨_, _, _, p, r⟩)
theorem Dvs.inv {P : Addr → Obj → Prop} {vs : List Value} {ds : List D} (h : Dvs P vs ds) : @List.casesOn D (fun _ => Prop) ds (vs = []) (fun d r => ConsI P d r vs) := h.casesOn rfl (fun p r => ⟨_, _, p, r⟩)
theorem Dv.out {P : Addr → Obj → Prop} {v : Value} {d : D} (h : Dv P v d) : @Value.casesOn (fun _ => Prop) v (.none = d) True True (fun b => .bool b = d) (fun i _ => .int i = d) (fun _ _ => True) (fun x _ => .str x = d) (fun b _ => .bytes b = d) (fun _ => True) (fun _ => True) (fun a => ∃ vs n ds, d = .tup ds ∧ P a (tupOf vs n) ∧ Dvs P vs ds) :=
  h.casesOn rfl (fun _ => rfl) (fun _ _ => rfl) (fun _ _ => rfl) (fun _ _ => rfl) (fun p r => ⟨_, _, _, rfl, p, r⟩)
theorem Dvs.out {P : Addr → Obj → Prop} {vs : List Value} {ds : List D} (h : Dvs P vs ds) : @List.casesOn Value (fun _ => Prop) vs ([] = ds) (fun v r => ∃ d es, ds = d :: es ∧ Dv P v d ∧ Dvs P r es) := h.casesOn rfl (fun p r => ⟨_, _, rfl, p, r⟩)
theorem Dvs.one {P : Addr → Obj → Prop} {v : Value} {d : D} (h : Dv P v d) : Dvs P [v] [d] := .cons h .nil
theorem Dvs.get {P : Addr → Obj → Prop} {vs : List Value} {ds : List D} {i : Nat} {d : D} (x : Dvs P vs ds) : ds[i]? = some d → ∃ v, vs[i]? = some v ∧ Dv P v d := by
  refine Dvs.ind (M := fun vs ds => ∀ i d, ds[i]? = some d → ∃ v, vs[i]? = some v ∧ Dv P v d) (fun i d e => by cases i <;> cases e) (fun v vs d ds h _ ih i d' e => ?_) x i d
  cases i with
  | zero => cases e; exact ⟨_, rfl, h⟩
  | succ i => exact ih i d' e
theorem Dvs.reverse {P : Addr → Obj → Prop} {vs : List Value} {ds : List D} (x : Dvs P vs ds) : Dvs P vs.reverse ds.reverse :=
  Dvs.ind (M := fun vs ds => Dvs P vs.reverse ds.reverse) .nil (fun v vs d ds h _ ih => by rw [List.reverse_cons, List.reverse_cons]; exact ih.append (.one h)) x

noncomputable abbrev Hv (h : Heap) : Addr → Obj → Prop := fun a o => h.get? a = some o
noncomputable abbrev Lv (g : Heap) (imm : List (Addr × Obj)) : Addr → Obj → Prop := fun a o => g.get? a = some o ∨ (a, o) ∈ imm

/-- what a call leaves as it was -/
structure Kp (M : List Nat) (h h' : Heap) : Prop where
  keep : ∀ b o, h.get? b = some o → b ∉ M → h'.get? b = some o
  size : h.objs.size ≤ h'.objs.size
theorem Kp.refl {M : List Nat} {h : Heap} : Kp M h h := ⟨fun _ _ e _ => e, Nat.le_refl _⟩
theorem Kp.trans {M : List Nat} {h h' h'' : Heap} (a : Kp M h h') (b : Kp M h' h'') : Kp M h h'' := ⟨fun x o e n => b.keep x o (a.keep x o e n) n, Nat.le_trans a.size b.size⟩
theorem Kp.mono {M M' : List Nat} {h h' : Heap} (a : Kp M h h') (s : ∀ x ∈ M, x ∈ M') : Kp M' h h' := ⟨fun x o e n => a.keep x o e fun q => n (s x q), a.size⟩

section
variable {g h h' : Heap} {L : Addr} {m : Str → Option Value} {led mt imm : List (Addr × Obj)} {M Mc : List Nat}

theorem after (F : Fr g L h m) (k : Kp M h h') (hM : ∀ a ∈ M, a ≠ L ∧ g.get? a = none) (hs : ∀ a ∈ M, a ∈ Mc)
    (hm : ∀ p ∈ mt, h'.get? p.1 = some p.2 ∧ p.1 ≠ L ∧ g.get? p.1 = none) :
    ∃ imm : List (Addr × Obj), Fr g L h' m ∧ News g L h' (mt ++ imm) ∧ (∀ p ∈ imm, p.1 ∉ Mc) ∧ (∀ a o, h'.get? a = some o → a ≠ L → a ∉ Mc → Lv g imm a o) := by
  let pick : Nat → Option (Addr × Obj) := fun a => if a = L ∨ a ∈ Mc ∨ (g.get? a).isSome then none else (h'.get? a).map fun o => (a, o)
  have hF : Fr g L h' m := by
    obtain ⟨o, es, ep, ho, r⟩ := F.ns
    exact ⟨⟨o, es, ep, k.keep _ _ ho fun q => (hM _ q).1 rfl, r⟩, fun b o e => k.keep _ _ (F.keep _ _ e) (fun q => by rw [(hM _ q).2] at e; cases e), F.above⟩
  refine ⟨(List.range h'.objs.size).filterMap pick, hF, ?_, ?_, ?_⟩
  · intro p hp
    rcases List.mem_append.mp hp with hp | hp
    · exact hm p hp
    · obtain ⟨a, _, e⟩ := List.mem_filterMap.mp hp
      simp only [pick] at e
      split at e
      · cases e
      · (repeat (first | clear qk | clear ek))
        rename_i hn
        simp only [not_or] at hn
        obtain ⟨o, e1, e2⟩ := Option.map_eq_some_iff.mp e
        subst e2
        refine ⟨e1, hn.1, ?_⟩
        cases q : g.get? a with
        | none => rfl
        | some x => rw [q] at hn; exact absurd rfl hn.2.2
  · intro p hp
    obtain ⟨a, _, e⟩ := List.mem_filterMap.mp hp
    simp only [pick] at e
    split at e
    · cases e
    · (repeat (first | clear qk | clear ek))
      rename_i hn
      simp only [not_or] at hn
      obtain ⟨o, e1, e2⟩ := Option.map_eq_some_iff.mp e
      subst e2
      exact hn.2.1
  · intro a o e hL hc
    cases q : g.get? a with
    | some x =>
      have := hF.keep _ _ q
      rw [e] at this
      exact .inl (q.trans this.symm)
    | none =>
      refine .inr (List.mem_filterMap.mpr ⟨a, List.mem_range.mpr (Heap.lt_size e), ?_⟩)
      simp only [pick]
      rw [if_neg (by simp [hL, hc, q]), e]; rfl

theorem lv_get (F : Fr g L h m) (N : News g L h led) (hs : ∀ p ∈ imm, p ∈ led) {a : Addr} {o : Obj} (x : Lv g imm a o) : h.get? a = some o := x.elim (fun e => F.keep _ _ e) fun q => (N _ (hs _ q)).1
theorem dv_up (F : Fr g L h m) (N : News g L h led) (hs : ∀ p ∈ imm, p ∈ led) {v : Value} {d : D} (x : Dv (Lv g imm) v d) : Dv (Hv h) v d := x.mono fun _ _ _ q => lv_get F N hs q
theorem dvs_up (F : Fr g L h m) (N : News g L h led) (hs : ∀ p ∈ imm, p ∈ led) {vs : List Value} {ds : List D} (x : Dvs (Lv g imm) vs ds) : Dvs (Hv h) vs ds := x.mono fun _ _ _ q => lv_get F N hs q
theorem ns_not_tup {h : Heap} {L : Addr} {m : Str → Option Value} (x : h.Ns L m) {vs : List Value} {n : Nat} : h.get? L ≠ some (tupOf vs n) := by
  obtain ⟨o, es, ep, ho, hd, _⟩ := x
  intro e; rw [ho] at e; cases e; cases hd
theorem list_not_tup {h : Heap} {a : Addr} {its : Array Value} {k : Nat} (e : h.get? a = some (listOf its k)) {vs : List Value} {n : Nat} : h.get? a ≠ some (tupOf vs n) := by
  intro q; rw [e] at q
  have z : (listOf its k).cls = (tupOf vs n).cls := congrArg Obj.cls (Option.some.inj q)
  exact absurd (Value.type.inj z) (by decide)
theorem dv_down (F : Fr g L h m) (hMc : ∀ a ∈ Mc, ∀ vs n, h.get? a ≠ some (tupOf vs n)) (tot : ∀ a o, h.get? a = some o → a ≠ L → a ∉ Mc → Lv g imm a o) {v : Value} {d : D} (x : Dv (Hv h) v d) : Dv (Lv g imm) v d :=
  x.mono fun a _ _ e => tot a _ e (fun q => ns_not_tup F.ns (q ▸ e)) (fun q => hMc a q _ _ e)
theorem dvs_down (F : Fr g L h m) (hMc : ∀ a ∈ Mc, ∀ vs n, h.get? a ≠ some (tupOf vs n)) (tot : ∀ a o, h.get? a = some o → a ≠ L → a ∉ Mc → Lv g imm a o) {vs : List Value} {ds : List D} (x : Dvs (Hv h) vs ds) : Dvs (Lv g imm) vs ds :=
  x.mono fun a _ _ e => tot a _ e (fun q => ns_not_tup F.ns (q ▸ e)) (fun q => hMc a q _ _ e)
/-- a datum across a call -/
theorem dv_kp (k : Kp M h h') (hM : ∀ a ∈ M, ∀ vs n, h.get? a ≠ some (tupOf vs n)) {v : Value} {d : D} (x : Dv (Hv h) v d) : Dv (Hv h') v d := x.mono fun a _ _ e => k.keep _ _ e fun q => hM a q _ _ e
theorem dvs_kp (k : Kp M h h') (hM : ∀ a ∈ M, ∀ vs n, h.get? a ≠ some (tupOf vs n)) {vs : List Value} {ds : List D} (x : Dvs (Hv h) vs ds) : Dvs (Hv h') vs ds := x.mono fun a _ _ e => k.keep _ _ e fun q => hM a q _ _ e
end
theorem rulesOgDraw : True := by
  w_top off
  k_with_none
  k_with "spliced" => ((with_reducible show wpAny _ _ (spliced (backTo _ (starEach (_ :: _) _))) _ _ _); k_dflt (refine' args_at ?ogF ?ogk ?ogv ?_; (case ogF => k_asm); (case ogk => rfl); (case ogv => rfl)); k_whole)
  k_with "eval Constant int" => refine int_at ?_
  k_with "eval Constant str" => refine str_at ?_
  k_with "eval Call" => (k_dflt (first | (refine' callK_at ?ogF ?ogX ?ogT ?oge ?ogf ?ogk ?ogg ?ogd ?ogv ?_; (case ogX => k_asm); (case ogT => k_asm); (case oge => k_is); (case ogf => k_is); (case ogg => rfl); (case ogd => rfl); (case ogF => k_asm); (case ogk => rfl); (case ogv => rfl); k_whole) | (refine' callB_at ?ogF ?ogX ?ogT ?oge ?ogb ?ogi ?ogn ?ogk ?ogg ?ogd ?ogv ?_; (case ogX => k_asm); (case ogT => k_asm); (case oge => k_is); (case ogb => boot_fast); (case ogi => rfl); (case ogn => decide); (case ogg => rfl); (case ogd => rfl); (case ogF => k_asm); (case ogk => rfl); (case ogv => rfl); k_whole)))
  k_with "eval Subscript" => (k_dflt (refine' sub_at ?ogF ?ogk ?ogv ?ogw ?_; (case ogF => k_asm); (case ogk => rfl); (case ogv => rfl); (case ogw => rfl)); k_whole)
  k_with "ite" => (k_closed; k_dflt (first | refine iteT rfl ?_ | refine iteF rfl ?_))
  k_with "isTrue Compare" => (k_dflt (refine' cmp_at ?ogF ?ogk ?ogv ?ogw ?ogb ?_; (case ogF => k_asm); (case ogk => rfl); (case ogv => rfl); (case ogw => rfl); (case ogb => rfl)); k_whole)
  k_with "execs cons" => ((with_reducible refine wpAny_execs_cons ?_); (try dsimp only); (try clear qk ek); (try k_fold))
  k_with "og_mem" => first | with_reducible assumption | (refine memI ?_; with_reducible assumption) | (refine List.mem_append_right _ ?_; k_mem) | (refine List.mem_append_left _ ?_; k_mem)
  k_with "og_neo" => first | exact neLt (by assumption) (by k_mem) | exact neGt (by assumption) (by k_mem) | (refine neN ?_; (try dsimp only); lia)
  k_with "og_ne" => first | assumption | exact Ne.symm (by assumption) | (k_extra "og_neo")
  k_with "og_all" => first | assumption | exact neAll (by assumption) (fun _ h => h) | exact neAll (by assumption) (by intro p hp; k_mem) | exact off1 (by assumption) (by assumption) | exact LCg_lt (by assumption) | exact offL (by assumption) (by k_mem) | exact off_tup (by assumption) (by assumption) (by intro p hp; k_mem) (by k_mem) | (refine List.forall_mem_append.mpr ⟨?_, ?_⟩ <;> k_all) | exact off1 (by assumption) (by lia)
  k_with "og_peel" => ((try dsimp +zetaDelta only [List.nil_append, List.cons_append] at *); (repeat (first | clear ledk | clear mk | clear qk | clear ek)))
  k_with "og_klt" => skip
  k_with "newTuple" => (k_dflt (refine' newtup_le ?ogF ?ogN ?_ ?ogz; (case ogF => k_asm); (case ogN => k_asm); (case ogz => kmk_size)); intro _ _ ledk _ _ l1; (try skip); (try k_sweep); (try (revert l1; intros)))
  k_with "eval Tuple" => (k_dflt (refine' tup_le ?ogF ?ogN ?ogk ?ogv ?ogz ?_; (case ogN => k_asm); (case ogF => k_asm); (case ogk => rfl); (case ogv => rfl); (case ogz => kmk_size)); k_whole; intro _ _ ledk _ _ l1; (try skip); (try k_sweep); (try (revert l1; intros)))
  k_with "storeName" => (k_dflt (refine' store_le ?ogF ?ogN ?_ ?oga ?ogb; (case ogF => k_asm); (case ogN => k_asm); (case oga => rfl); (case ogb => rfl)); k_whole; intro _ mk _ _; (try k_sweep))
  k_with "call builtin:list.append" => ((with_reducible show wpAny _ _ (call (Value.builtin _) [Value.ref _, _]) _ _ _); k_dflt (refine' append_le ?ogF ?ogN ?ogU ?_ ?ogz; (case ogF => k_asm); (case ogN => k_asm); (case ogU => k_upd); (case ogz => ((try simp only [List.length_append, List.length_cons, List.length_nil]); lia))); k_whole; intro _ ledk _ _; (try k_sweep))
  k_with "call builtin:len" => (k_dflt (refine' len_i ?ogk1 ?ogk2 ?ogk3 ?ogk4 ?_; (case ogk1 => k_asm); (case ogk2 => k_mem); (case ogk3 => with_reducible assumption); (case ogk4 => lia); k_whole); intro _ _; (try dsimp only))
  k_with "setItem ref int" => (k_dflt (refine' set_l ?ogk1 ?ogk2 ?ogk3 ?ogk4 ?ogk5 ?ogk6 ?ogk7 ?_; (case ogk1 => k_asm); (case ogk2 => k_asm); (case ogk3 => k_upd); (case ogk4 => rfl); (case ogk5 => decide); (case ogk6 => decide); (case ogk7 => (simp only [List.length_cons, List.length_nil]; decide)); k_whole); intro _ _ _; (try dsimp only [List.set]); (try k_sweep))
  trivial
theorem fill : (PySem.Challenge.rw_og0067_01 = PySem.Challenge.rw_og0067_01) ∧ (hdOg.heap_1 = hdOg.heap_1) := by k_fill; exact ⟨rfl, rfl⟩
structure TapeOk (T : Tape) : Prop where
  pos : 0 < T.cells.length
  len : T.cells.length ≤ 1000
  t0 : 0 ≤ T.t
noncomputable def TapeAt (h : Heap) (aT aC : Nat) (T : Tape) : Prop :=
  ∃ tk n n2 vs, h.get? aT = some (listOf [.ref aC, .int T.t tk].toArray n) ∧ h.get? aC = some (listOf vs.toArray n2) ∧ IntsAre vs T.cells
theorem dnew_ok {T : Tape} {lim : Int} (o : TapeOk T) : TapeOk (dnew lim T) := ⟨by unfold dnew; simpa using o.pos, by unfold dnew; simpa using o.len, by have := o.t0; show 0 ≤ T.t + 1; lia⟩
theorem dval_range {T : Tape} {lim : Int} (h : 0 < lim) : 0 ≤ dval lim T ∧ dval lim T < lim := by
  unfold dval
  rw [Int.fmod_eq_emod_of_nonneg _ (by lia)]
  exact ⟨Int.emod_nonneg _ (by lia), Int.emod_lt_of_pos _ h⟩

theorem draw_spec {prog : Program} {w : World} {A : Around} {s : Shared} {G : Heap} {R : Result → Shared → Prop} (B : Base w G) (kp : G.StaysIn s.heap) {aT aC : Nat} {T : Tape} {lt : Nat} {lim : Int}
    (TA : TapeAt s.heap aT aC T) (ok : TapeOk T) (gT : G.get? aT = none) (gC : G.get? aC = none)
    (hA : A.handled = none) (hd : A.depth < 900) (hu : A.units < 5000) (hTC : aT ≠ aC) (ht2 : T.t < 100000) (hlim : lim = 3 ∨ lim = 5)
    (h : ∀ h' tk' tr, Kp [aT, aC] s.heap h' → TapeAt h' aT aC (dnew lim T) → R (.ok (.ret (.int (dval lim T) tr))) { s with heap := h', toks := tk' }) : 
    codeAny (model prog w) A (.call (.ref 77) ⟨[.ref aT, .int lim lt], []⟩) R s := by
  obtain ⟨tk, n, n2, vs, hT, hC, hvs⟩ := TA
  obtain ⟨ns, t⟩ := T
  obtain ⟨hn1, hn, ht⟩ := ok
  dsimp only at *
  have f1 : 0 ≤ t.fmod (ns.length : Int) := by rw [Int.fmod_eq_emod_of_nonneg _ (by lia)]; exact Int.emod_nonneg _ (by lia)
  have f2 : t.fmod (ns.length : Int) < (ns.length : Int) := by rw [Int.fmod_eq_emod_of_nonneg _ (by lia)]; exact Int.emod_lt_of_pos _ (by lia)
  refine' enter (binds := [(Str.ofString "tape", .ref aT), (Str.ofString "limit", .int lim lt)]) B kp [(aT, listOf [.ref aC, .int t tk].toArray n), (aC, listOf vs.toArray n2)] ?hled ?ho ?hcd ?room ?hb ?hloc ?hcell ?_ ?c1 ?c2 ?c3
  case ho => k_is
  case hcd => k_is
  case room => exact Nat.lt_trans hd (by decide)
  case hb => exact BindsTo.of_eq rfl
  case hloc => exact locs rfl
  case hcell => decide
  case c1 => rfl
  case c2 => rfl
  case c3 => rfl
  case hled => exact List.forall_mem_cons.mpr ⟨⟨hT, gT⟩, List.forall_mem_cons.mpr ⟨⟨hC, gC⟩, List.forall_mem_nil _⟩⟩
  intro g h₁ hg1 hg2 F N B'
  have X := B'.X
  obtain ⟨p, loose, mean, mg, mb, Tp⟩ := B'.T
  clear kp hT hC gT gC B B' hg2
  rcases hlim with rfl | rfl
  all_goals (
    k_steps
    all_goals (try dsimp only)
    all_goals (refine h _ _ _ ⟨fun b o e nb => ?_, ?_⟩ ?_)
    all_goals first
      | exact (Fr.keep (by assumption)) _ _ (hg1 b o e nb)
      | exact Nat.le_of_lt (Heap.Ns.lt (Fr.ns (by assumption)))
      | skip
    all_goals (
      k_extra "og_peel"
      rename News _ _ _ _ => N9
      refine ⟨_, _, _, _, N9.get (.head _), N9.get (.tail _ (.head _)), ?_⟩
      unfold dnew dcell
      first
        | (rw [if_pos (by assumption)]; assumption)
        | (rw [if_neg (by assumption)]; assumption)))

theorem list_ne : Value.type "list" ≠ .type "tuple" := fun e => absurd (Value.type.inj e) (by decide)
noncomputable abbrev AllTup (imm : List (Addr × Obj)) : Prop := ∀ p ∈ imm, p.2.cls = .type "tuple"

/-- the ledger without the entries at ks; tails that are letters hold tuples alone, or lie off ks -/
inductive Rest (ks : List Nat) : List (Addr × Obj) → List (Addr × Obj) → Prop
  | nil : Rest ks [] []
  | skip {p : Addr × Obj} {l r : List (Addr × Obj)} : p.1 ∈ ks → Rest ks l r → Rest ks (p :: l) r
  | keep {p : Addr × Obj} {l r : List (Addr × Obj)} : (∀ a ∈ ks, p.1 ≠ a) → Rest ks l r → Rest ks (p :: l) (p :: r)
  | tail {l : List (Addr × Obj)} : AllTup l → Rest ks l l
  | app {l r : List (Addr × Obj)} {i : List (Addr × Obj)} : AllTup i → Rest ks l r → Rest ks (i ++ l) (i ++ r)
  | off {l : List (Addr × Obj)} : (∀ p ∈ l, ∀ a ∈ ks, p.1 ≠ a) → Rest ks l l
  | offApp {l r : List (Addr × Obj)} {i : List (Addr × Obj)} : (∀ p ∈ i, ∀ a ∈ ks, p.1 ≠ a) → Rest ks l r → Rest ks (i ++ l) (i ++ r)
theorem Rest.mem {ks : List Nat} {g h : Heap} {L : Addr} {led : List (Addr × Obj)} (N : News g L h led) (hk : ∀ a ∈ ks, ∃ o, (a, o) ∈ led ∧ o.cls ≠ .type "tuple") : ∀ {l r : List (Addr × Obj)}, Rest ks l r → (∀ p ∈ l, p ∈ led) → ∀ p ∈ r, p ∈ led ∧ p.1 ∉ ks := by
  have tp : ∀ {l : List (Addr × Obj)}, AllTup l → (∀ p ∈ l, p ∈ led) → ∀ p ∈ l, p ∈ led ∧ p.1 ∉ ks := fun c hs p hp => ⟨hs p hp, fun q => by
    obtain ⟨o, ho, hn⟩ := hk _ q
    have e1 := (N p (hs p hp)).1
    rw [(N _ ho).1] at e1
    exact hn ((congrArg Obj.cls (Option.some.inj e1)).trans (c p hp))⟩
  intro l r h
  induction h with
  | nil => intro _ p h; exact nomatch h
  | skip _ _ ih => intro hs p h; exact ih (fun q hq => hs q (.tail _ hq)) p h
  | keep n _ ih =>
    intro hs p h
    rcases List.mem_cons.mp h with rfl | h
    · exact ⟨hs _ (.head _), fun q => n _ q rfl⟩
    · exact ih (fun q hq => hs q (.tail _ hq)) p h
  | tail c => intro hs; exact tp c hs
  | app c _ ih =>
    intro hs p h
    rcases List.mem_append.mp h with h | h
    · exact tp c (fun q hq => hs q (List.mem_append_left _ hq)) p h
    · exact ih (fun q hq => hs q (List.mem_append_right _ hq)) p h
  | off n => intro hs p h; exact ⟨hs p h, fun q => n p h _ q rfl⟩
  | offApp n _ ih =>
    intro hs p h
    rcases List.mem_append.mp h with h | h
    · exact ⟨hs p (List.mem_append_left _ h), fun q => n p h _ q rfl⟩
    · exact ih (fun q hq => hs q (List.mem_append_right _ hq)) p h

section
variable {g h h' : Heap} {L : Addr} {m : Str → Option Value} {led mt imm rest : List (Addr × Obj)} {M : List Nat}
theorem off_tup {a : Nat} {its : Array Value} {n : Nat} (c : AllTup imm) (N : News g L h led) (hs : ∀ p ∈ imm, p ∈ led) (hm : (a, listOf its n) ∈ led) : ∀ p ∈ imm, p.1 ≠ a := fun p hp e => by
  have h1 := (N p (hs p hp)).1
  rw [e, (N _ hm).1] at h1
  have z := congrArg Obj.cls (Option.some.inj h1)
  rw [c p hp] at z
  exact absurd (Value.type.inj z) (by decide)

/-- the caller's frame and ledger behind a call: what the call changed (mt), what it kept (rest), all tuples (imm) -/
theorem back (F : Fr g L h m) (N : News g L h led) (k : Kp M h h') (hM : ∀ a ∈ M, ∃ o, (a, o) ∈ led ∧ o.cls ≠ .type "tuple") (hr : Rest M led rest)
    (hm : ∀ p ∈ mt, h'.get? p.1 = some p.2 ∧ p.1 ∈ M) :
    Fr g L h' m ∧ ∃ imm, AllTup imm ∧ News g L h' (mt ++ (rest ++ imm)) ∧ (∀ a vs n, h'.get? a = some (tupOf vs n) → Lv g imm a (tupOf vs n)) := by
  have hMg : ∀ a ∈ M, a ≠ L ∧ g.get? a = none := fun a ha => by
    obtain ⟨o, hp, _⟩ := hM a ha
    exact ⟨(N _ hp).2.1, (N _ hp).2.2⟩
  have hF : Fr g L h' m := by
    obtain ⟨o, es, ep, ho, r⟩ := F.ns
    exact ⟨⟨o, es, ep, k.keep _ _ ho fun q => (hMg _ q).1 rfl, r⟩, fun b o e => k.keep _ _ (F.keep _ _ e) (fun q => by rw [(hMg _ q).2] at e; cases e), F.above⟩
  let pick : Nat → Option (Addr × Obj) := fun a => if (g.get? a).isSome ∨ a = L then none else (h'.get? a).bind fun o => if o.cls = .type "tuple" then some (a, o) else none
  have hp : ∀ a p, pick a = some p → p.1 = a ∧ h'.get? a = some p.2 ∧ p.2.cls = .type "tuple" ∧ g.get? a = none ∧ a ≠ L := fun a p e => by
    by_cases q2 : (g.get? a).isSome ∨ a = L
    · rw [show pick a = none from if_pos q2] at e; cases e
    · rw [show pick a = _ from if_neg q2] at e
      obtain ⟨o, q, e⟩ := Option.bind_eq_some_iff.mp e
      by_cases c : o.cls = .type "tuple"
      · rw [if_pos c] at e
        obtain rfl := Option.some.inj e
        exact ⟨rfl, q, c, Option.not_isSome_iff_eq_none.mp fun z => q2 (.inl z), fun z => q2 (.inr z)⟩
      · rw [if_neg c] at e; cases e
  refine ⟨hF, (List.range h'.objs.size).filterMap pick, ?_, ?_, ?_⟩
  · intro p hq
    obtain ⟨a, _, e⟩ := List.mem_filterMap.mp hq
    exact (hp a p e).2.2.1
  · intro p hq
    rcases List.mem_append.mp hq with hq | hq
    · have := hm p hq
      exact ⟨this.1, (hMg _ this.2).1, (hMg _ this.2).2⟩
    · rcases List.mem_append.mp hq with hq | hq
      · have := hr.mem N hM (fun _ h => h) p hq
        exact ⟨k.keep _ _ (N p this.1).1 this.2, (N p this.1).2⟩
      · obtain ⟨a, _, e⟩ := List.mem_filterMap.mp hq
        obtain ⟨e1, e2, e3, e4, e5⟩ := hp a p e
        subst e1
        exact ⟨e2, e5, e4⟩
  · intro a vs n e
    cases q : g.get? a with
    | some x =>
      have := hF.keep _ _ q
      rw [e] at this
      exact .inl (q.trans this.symm)
    | none =>
      refine .inr (List.mem_filterMap.mpr ⟨a, List.mem_range.mpr (Heap.lt_size e), ?_⟩)
      show (if _ then none else _) = _
      rw [if_neg (by rintro (z | z); (· rw [q] at z; cases z); (· exact ns_not_tup hF.ns (z ▸ e))), e]; rfl
/-- tuples that stand behind a call and did not ahead of it -/
noncomputable abbrev Nv (h h' : Heap) : Addr → Obj → Prop := fun a o => h'.get? a = some o ∧ h.get? a = none
noncomputable abbrev Iv (imm : List (Addr × Obj)) : Addr → Obj → Prop := fun a o => (a, o) ∈ imm
theorem back2 (F : Fr g L h m) (N : News g L h led) (k : Kp M h h') (hM : ∀ a ∈ M, ∃ o, (a, o) ∈ led ∧ o.cls ≠ .type "tuple") (hr : Rest M led rest)
    (hm : ∀ p ∈ mt, h'.get? p.1 = some p.2 ∧ p.1 ∈ M) :
    Fr g L h' m ∧ ∃ imm, AllTup imm ∧ News g L h' (mt ++ (rest ++ imm)) ∧ (∀ p ∈ imm, ∀ q ∈ led, p.1 ≠ q.1) ∧ (∀ a vs n, Nv h h' a (tupOf vs n) → Iv imm a (tupOf vs n)) := by
  obtain ⟨F', imm, ct, N', tot⟩ := back F N k hM hr hm
  refine ⟨F', imm.filter fun p => (h.get? p.1).isNone, fun p hp => ct p (List.mem_filter.mp hp).1, fun p hp => N' p ?_, fun p hp q hq e => ?_, fun a vs n e => ?_⟩
  · simp only [List.mem_append, List.mem_filter] at hp ⊢
    rcases hp with hp | hp | hp
    · exact .inl hp
    · exact .inr (.inl hp)
    · exact .inr (.inr hp.1)
  · have h1 := (List.mem_filter.mp hp).2
    rw [e, (N q hq).1] at h1
    cases h1
  · rcases tot a vs n e.1 with q | q
    · have := F.keep _ _ q; rw [e.2] at this; cases this
    · exact List.mem_filter.mpr ⟨q, by rw [e.2]; rfl⟩
/-- a tuple of the ledger's end did not stand at the def's entry -/
theorem new_tup {h₀ : Heap} {led₀ : List (Addr × Obj)} {D' : Nat} {vs : List Value} {n : Nat} (hg1 : ∀ b o, h₀.get? b = some o → b ∉ led₀.map (·.1) → g.get? b = some o) (N : News g L h led) (hm : (D', tupOf vs n) ∈ led)
    (hl : ∀ a ∈ led₀.map (·.1), ∃ o, (a, o) ∈ led ∧ o.cls ≠ .type "tuple") : h₀.get? D' = none := by
  cases q : h₀.get? D' with
  | none => rfl
  | some o =>
    exfalso
    by_cases hb : D' ∈ led₀.map (·.1)
    · obtain ⟨o', ho', hn⟩ := hl _ hb
      have e := (N _ ho').1
      rw [(N _ hm).1] at e
      exact hn (congrArg Obj.cls (Option.some.inj e)).symm
    · have e := hg1 _ _ q hb
      rw [(N _ hm).2.2] at e
      cases e
theorem new_view {h₀ : Heap} {led₀ : List (Addr × Obj)} (hg1 : ∀ b o, h₀.get? b = some o → b ∉ led₀.map (·.1) → g.get? b = some o) (N : News g L h led)
    (hl : ∀ a ∈ led₀.map (·.1), ∃ o, (a, o) ∈ led ∧ o.cls ≠ .type "tuple") (hs : ∀ p ∈ imm, p ∈ led) : ∀ a vs n, Iv imm a (tupOf vs n) → Nv h₀ h a (tupOf vs n) :=
  fun a vs n q => ⟨N.get (hs _ q), new_tup hg1 N (hs _ q) hl⟩
theorem hl3 {a b c : Nat} {ia ib ic : Array Value} {na nb nc : Nat} (_ : News g L h led) (ha : (a, listOf ia na) ∈ led) (hb : (b, listOf ib nb) ∈ led) (hc : (c, listOf ic nc) ∈ led) : ∀ x ∈ [a, b, c], ∃ o, (x, o) ∈ led ∧ o.cls ≠ .type "tuple" :=
  List.forall_mem_cons.mpr ⟨⟨_, ha, list_ne⟩, List.forall_mem_cons.mpr ⟨⟨_, hb, list_ne⟩, List.forall_mem_cons.mpr ⟨⟨_, hc, list_ne⟩, List.forall_mem_nil _⟩⟩⟩
theorem down (tot : ∀ a vs n, h'.get? a = some (tupOf vs n) → Lv g imm a (tupOf vs n)) {v : Value} {d : D} (x : Dv (Hv h') v d) : Dv (Lv g imm) v d := x.mono tot
theorem downs (tot : ∀ a vs n, h'.get? a = some (tupOf vs n) → Lv g imm a (tupOf vs n)) {vs : List Value} {ds : List D} (x : Dvs (Hv h') vs ds) : Dvs (Lv g imm) vs ds := x.mono tot
end

section
variable {prog : Program} {w : World} {A : Around} {E : Value → Shared → Prop} {s : Shared} {g : Heap} {L aT aC : Nat} {m : Str → Option Value} {led rest : List (Addr × Obj)} {vs : List Value} {n n2 tk lt : Nat} {T : Tape} {lim : Int}
theorem call_draw {Q : Value → Shared → Prop} (B : Base w g) (F : Fr g L s.heap m) (N : News g L s.heap led) (hT : (aT, listOf [.ref aC, .int T.t tk].toArray n) ∈ led) (hC : (aC, listOf vs.toArray n2) ∈ led) (hvs : IntsAre vs T.cells) (ok : TapeOk T)
    (hr : Rest [aT, aC] led rest) (hA : A.handled = none) (hd : A.depth < 900) (hu : A.units < 5000) (hTC : aT ≠ aC) (ht2 : T.t < 100000) (hlim : lim = 3 ∨ lim = 5)
    (h : ∀ h' tk' tr tk2 n' n2' vs', Fr g L h' m → News g L h' ((aT, listOf [.ref aC, .int (dnew lim T).t tk2].toArray n') :: (aC, listOf vs'.toArray n2') :: rest) → IntsAre vs' (dnew lim T).cells → TapeOk (dnew lim T) →
      0 ≤ dval lim T → dval lim T < lim → Q (.int (dval lim T) tr) { s with heap := h', toks := tk' }) :
    wpAny (model prog w) A (call (.ref 77) [.ref aT, .int lim lt]) Q E s := by
  refine wpAny_call (draw_spec B F.keep ⟨_, _, _, _, N.get hT, N.get hC, hvs⟩ ok (N.fresh hT) (N.fresh hC) hA hd hu hTC ht2 hlim ?_)
  intro h' tk' tr k TA
  obtain ⟨tk2, n', n2', vs', e1, e2, hi⟩ := TA
  have hM : ∀ a ∈ [aT, aC], ∃ o, (a, o) ∈ led ∧ o.cls ≠ .type "tuple" := List.forall_mem_cons.mpr ⟨⟨_, hT, list_ne⟩, List.forall_mem_cons.mpr ⟨⟨_, hC, list_ne⟩, List.forall_mem_nil _⟩⟩
  obtain ⟨F', imm, _, N', _⟩ := back (mt := [(aT, listOf [.ref aC, .int (dnew lim T).t tk2].toArray n'), (aC, listOf vs'.toArray n2')]) F N k hM hr
    (List.forall_mem_cons.mpr ⟨⟨e1, by simp⟩, List.forall_mem_cons.mpr ⟨⟨e2, by simp⟩, List.forall_mem_nil _⟩⟩)
  refine h h' tk' tr tk2 n' n2' vs' F' (fun p hp => N' p ?_) hi (dnew_ok ok) (dval_range (by rcases hlim with rfl | rfl <;> decide)).1 (dval_range (by rcases hlim with rfl | rfl <;> decide)).2
  simp only [List.mem_cons, List.mem_append, List.not_mem_nil, or_false] at hp ⊢
  rcases hp with hp | hp | hp
  · exact .inl (.inl hp)
  · exact .inl (.inr hp)
  · exact .inr (.inl hp)
end
/-- a reference: its letter's number; within the subscripts another -/
inductive Rf where
  | leaf (k : Int)
  | node (k : Int) (sub : Rf)
theorem dnew_t {lim : Int} {T : Tape} : (dnew lim T).t = T.t + 1 := rfl
noncomputable def letter (k : Int) : Str := Txt.item (Str.ofString "ABC") k
noncomputable def sS (x : String) : D := D.str (Str.ofString x)
noncomputable def numD (i : Int) : D := .tup [sS "number", .tup [.int i, .int 0]]
noncomputable def Rf.toD (mark : Str) : Rf → D
  | .leaf k => .tup [sS "ref", .str (mark ++ letter k), .tup [], .tup [], .none]
  | .node k sub => .tup [sS "ref", .str (mark ++ letter k), .tup [sS "G"], .tup [.tup [sS "+", sub.toD mark, numD 2]], .tup [numD 1, .none]]
noncomputable def Rf.flat : Rf → List Rf
  | .leaf k => [.leaf k]
  | .node k sub => .node k sub :: sub.flat
/-- fuel = 3 - deep -/
noncomputable def refF : Nat → Tape → Rf × Tape
  | 0, T => (.leaf (dval 3 T), dnew 3 (dnew 3 T))
  | f + 1, T => if 0 < dval 3 (dnew 3 T) then (.leaf (dval 3 T), dnew 3 (dnew 3 T)) else (.node (dval 3 T) (refF f (dnew 3 (dnew 3 T))).1, (refF f (dnew 3 (dnew 3 T))).2)
theorem refF_pos {f : Nat} {T : Tape} (h : 0 < dval 3 (dnew 3 T)) : refF (f + 1) T = (.leaf (dval 3 T), dnew 3 (dnew 3 T)) := by rw [refF.eq_2, if_pos h]
theorem refF_neg {f : Nat} {T : Tape} (h : ¬ 0 < dval 3 (dnew 3 T)) : refF (f + 1) T = (.node (dval 3 T) (refF f (dnew 3 (dnew 3 T))).1, (refF f (dnew 3 (dnew 3 T))).2) := by rw [refF.eq_2, if_neg h]
theorem refF_zero {T : Tape} : refF 0 T = (.leaf (dval 3 T), dnew 3 (dnew 3 T)) := rfl
theorem refF_ok : ∀ (f : Nat) (T : Tape), TapeOk T → TapeOk (refF f T).2
  | 0, T, h => dnew_ok (dnew_ok h)
  | f + 1, T, h => by unfold refF; split; exact dnew_ok (dnew_ok h); exact refF_ok f _ (dnew_ok (dnew_ok h))
theorem refF_t : ∀ (f : Nat) (T : Tape), (refF f T).2.t ≤ T.t + 2 * (f + 1) ∧ T.t ≤ (refF f T).2.t
  | 0, T => by show T.t + 1 + 1 ≤ _ ∧ _ ≤ T.t + 1 + 1; lia
  | f + 1, T => by
    unfold refF; split
    · show T.t + 1 + 1 ≤ _ ∧ _ ≤ T.t + 1 + 1; lia
    · have := refF_t f (dnew 3 (dnew 3 T))
      have e : (dnew 3 (dnew 3 T)).t = T.t + 1 + 1 := rfl
      rw [e] at this
      dsimp only
      lia
theorem refF_len : ∀ (f : Nat) (T : Tape), (refF f T).1.flat.length ≤ f + 1
  | 0, T => Nat.le_refl _
  | f + 1, T => by
    unfold refF; split
    · show 1 ≤ _; lia
    · have := refF_len f (dnew 3 (dnew 3 T))
      show ((refF f _).1.flat).length + 1 ≤ _
      lia
theorem flat_head : ∀ r : Rf, ∃ l, r.flat = r :: l
  | .leaf k => ⟨_, rfl⟩
  | .node k s => ⟨_, rfl⟩

theorem dv_head {P : Addr → Obj → Prop} {v : Value} {vs : List Value} {r : Rf} {mk : Str} (x : Dvs P (v :: vs) (r.flat.map (Rf.toD mk))) : Dv P v (r.toD mk) := by
  obtain ⟨l, e⟩ := flat_head r
  rw [e] at x
  cases x with
  | cons h _ => exact h
noncomputable def RefSpec (prog : Program) (w : World) (f : Nat) : Prop := ∀ {A : Around} {s : Shared} {G : Heap} {R : Result → Shared → Prop} {aT aC aR : Nat} {T : Tape} {rvs : List Value} {nR mt dt : Nat} {mark : Str} {args : Args},
  Base w G → G.StaysIn s.heap → TapeAt s.heap aT aC T → TapeOk T → G.get? aT = none → G.get? aC = none → G.get? aR = none → s.heap.get? aR = some (listOf rvs.toArray nR) → rvs.length ≤ 1000 →
  A.handled = none → A.depth + f < 880 → A.units + 3 * f < 4900 → aT ≠ aC → aT ≠ aR → aC ≠ aR → T.t + 10 * f < 90000 → mark.length = 1 →
  (args = ⟨[.ref aT, .str mark mt, .ref aR, .int (3 - f) dt], []⟩ ∨ (f = 3 ∧ args = ⟨[.ref aT, .str mark mt, .ref aR], []⟩)) →
  (∀ h' tk' r nvs nR', Kp [aT, aC, aR] s.heap h' → TapeAt h' aT aC (refF f T).2 → h'.get? aR = some (listOf (rvs ++ r :: nvs).toArray nR') → Dvs (Nv s.heap h') (r :: nvs) ((refF f T).1.flat.map (Rf.toD mark)) →
    R (.ok (.ret r)) { s with heap := h', toks := tk' }) →
  codeAny (model prog w) A (.call (.ref 85) args) R s

section
variable {prog : Program} {w : World} {A : Around} {E : Value → Shared → Prop} {s : Shared} {g : Heap} {L aT aC aR D' : Nat} {m : Str → Option Value} {led rest : List (Addr × Obj)} {vs rvs xs : List Value} {n n2 nR tk mt dt u : Nat} {T : Tape} {f : Nat} {mark : Str} {pos : List Value} {x : Value} {deep : Int}
theorem last_l {value slice : Expr} {Q : Value → Shared → Prop} (N : News g L s.heap led) (hm : (D', listOf (xs ++ [x]).toArray n) ∈ led) (hsz : xs.length ≤ 10000) (h : Q x s)
    (hs : subscripted slice false (.ref D') (.int (-1) u) = operate [.ref D', .int (-1) u] (getItem (.ref D') (.int (-1) u)) := by with_unfolding_all rfl) :
    wpAny (model prog w) A (subscriptTail value slice (.ref D') (.int (-1) u)) Q E s :=
  tail_any (isl N hm).typeIs slot_list_getitem.lookup (wpAny_getItem_list_neg (isl N hm) (by decide) (by simp; lia) (by decide) (by
    have e : ((-1 : Int) + ((xs ++ [x]).toArray.size : Nat)).toNat = xs.length := by simp; lia
    rw [e]; simp) h) hs

theorem ext_l {ys : List Value} {led' : List (Addr × Obj)} {b : Nat} {Q : Value → Shared → Prop} (F : Fr g L s.heap m) (N : News g L s.heap led) (hb : (b, listOf ys.toArray n2) ∈ led) (U : Upd D' (listOf xs.toArray n) (listOf (xs ++ ys).toArray (if ys.length = 0 then n else n + 1)) led led')
    (hz : xs.length + ys.length ≤ 100000) (h : ∀ h', Fr g L h' m → News g L h' led' → Q .none { s with heap := h' }) : wpAny (model prog w) A (call (.builtin "list.extend") [.ref D', .ref b]) Q E s := by
  obtain ⟨pre, post, rfl, rfl, a, c⟩ := U.split
  have z := N (D', listOf xs.toArray n) (List.mem_append.mpr (.inr (.head _)))
  have hs : sizeLine = 2 ^ 24 := rfl
  refine call_meets PySem.F.slot_list_extend ⟨_, z.1, rfl⟩ PySem.F.entry_list_extend (PySem.F.args_list_extend_2 _ _) (PySem.AutoSeq1.list_extend_list_list_0 D' xs.toArray n b ys.toArray n2 ?_ (by simp; lia) (by simp; lia))
    ⟨z.1, (N _ hb).1, h _ (F.change (Heap.SameBut.update ..) z.2.1 z.2.2) (ki_turn _ N a c ?_ ?_)⟩
  · simp [Builtin.List.listTooLong]; lia
  · apply Array.toList_inj.mp; simp
  · simp
theorem call_ref {Q : Value → Shared → Prop} (S : RefSpec prog w f) (B : Base w g) (F : Fr g L s.heap m) (N : News g L s.heap led) (hT : (aT, listOf [.ref aC, .int T.t tk].toArray n) ∈ led) (hC : (aC, listOf vs.toArray n2) ∈ led) (hR : (aR, listOf rvs.toArray nR) ∈ led) (hvs : IntsAre vs T.cells) (ok : TapeOk T)
    (hr : Rest [aT, aC, aR] led rest) (hrl : rvs.length ≤ 1000) (hA : A.handled = none) (hd : A.depth + f < 880) (hu : A.units + 3 * f < 4900) (hTC : aT ≠ aC) (hTR : aT ≠ aR) (hCR : aC ≠ aR) (ht2 : T.t + 10 * f < 90000) (hmk : mark.length = 1) (hf : f ≤ 3)
    (hargs : (deep = 3 - (f : Int) ∧ pos = [.ref aT, .str mark mt, .ref aR, .int deep dt]) ∨ (f = 3 ∧ pos = [.ref aT, .str mark mt, .ref aR]))
    (h : ∀ h' tk' tk2 n' n2' vs' imm r nvs nR', Fr g L h' m → AllTup imm → (∀ p ∈ imm, ∀ q ∈ led, p.1 ≠ q.1) →
      News g L h' ((aT, listOf [.ref aC, .int (refF f T).2.t tk2].toArray n') :: (aC, listOf vs'.toArray n2') :: (aR, listOf (rvs ++ r :: nvs).toArray nR') :: (rest ++ imm)) → IntsAre vs' (refF f T).2.cells → TapeOk (refF f T).2 →
      Dvs (Iv imm) (r :: nvs) ((refF f T).1.flat.map (Rf.toD mark)) → nvs.length ≤ 3 → Q r { s with heap := h', toks := tk' }) :
    wpAny (model prog w) A (call (.ref 85) pos) Q E s := by
  refine wpAny_call (S B F.keep ⟨_, _, _, _, N.get hT, N.get hC, hvs⟩ ok (N.fresh hT) (N.fresh hC) (N.fresh hR) (N.get hR) hrl hA hd hu hTC hTR hCR ht2 hmk (dt := dt) (mt := mt) (hargs.elim (fun e => .inl (by rw [e.2, e.1])) fun e => .inr ⟨e.1, by rw [e.2]⟩) ?_)
  intro h' tk' r nvs nR' k TA hR' dv
  obtain ⟨tk2, n', n2', vs', e1, e2, hi⟩ := TA
  have hM : ∀ a ∈ [aT, aC, aR], ∃ o, (a, o) ∈ led ∧ o.cls ≠ .type "tuple" := List.forall_mem_cons.mpr ⟨⟨_, hT, list_ne⟩, List.forall_mem_cons.mpr ⟨⟨_, hC, list_ne⟩, List.forall_mem_cons.mpr ⟨⟨_, hR, list_ne⟩, List.forall_mem_nil _⟩⟩⟩
  obtain ⟨F', imm, ct, N', lo, tot⟩ := back2 (mt := [(aT, listOf [.ref aC, .int (refF f T).2.t tk2].toArray n'), (aC, listOf vs'.toArray n2'), (aR, listOf (rvs ++ r :: nvs).toArray nR')]) F N k hM hr
    (List.forall_mem_cons.mpr ⟨⟨e1, by simp⟩, List.forall_mem_cons.mpr ⟨⟨e2, by simp⟩, List.forall_mem_cons.mpr ⟨⟨hR', by simp⟩, List.forall_mem_nil _⟩⟩⟩)
  refine h h' tk' tk2 n' n2' vs' imm r nvs nR' F' ct lo N' hi (refF_ok f T ok) (dv.mono tot) ?_
  have q := dv.length
  have q2 := refF_len f T
  simp only [List.length_cons, List.length_map] at q
  lia
end

/-- a statement -/
inductive St where
  | mv (a b : Rf)
  | iff (a b : Rf) (x y : List St)
  | ev (a : Rf) (x y z : List St)
  | pf (a b c : Rf) (x : List St)
  | br (k : Int) (a : Rf) (x y : List St)

noncomputable def refB : D := .bytes #[114, 101, 102]
noncomputable def brHead (k : Int) (m : Str) (a : Rf) : List D :=
  if k = 0 then [sS "read", sS "F", .bool true, a.toD m, .none]
  else if k = 1 then [sS "call", a.toD m, .tup [.tup [sS "content", a.toD m]]]
  else [sS "search-all", a.toD m, .tup [sS "named", a.toD m]]
mutual
noncomputable def St.toD (m : Str) : St → D
  | .mv a b => .tup [sS "move", .tup [sS "all", refB], .tup [a.toD m, b.toD m]]
  | .iff a b x y => .tup [sS "if", .tup [sS "not", .tup [sS "rel", sS "=", a.toD m, b.toD m]], .tup (toDs m x), .tup (toDs m y)]
  | .ev a x y z => .tup [sS "evaluate", .tup [.tup [sS "worth", a.toD m]],
      .tup [.tup [.tup [.tup [.tup [sS "any"]]], .tup (toDs m x)], .tup [.tup [.tup [.tup [sS "is", .tup [sS "text", refB], .bool true]]], .tup (toDs m y)]], .tup (toDs m z)]
  | .pf a b c x => .tup [sS "perform", .tup [sS "body", .tup (toDs m x)], .tup [sS "varying", .bool false, .tup [.tup [a.toD m, numD 1, b.toD m, .tup [sS "named", c.toD m]]]]]
  | .br k a x y => .tup (brHead k m a ++ [.tup [.tup [sS "end", .tup (toDs m x)], .tup [sS "not end", .tup (toDs m y)]]])
noncomputable def toDs (m : Str) : List St → List D
  | [] => []
  | s :: r => s.toD m :: toDs m r
end
mutual
noncomputable def St.pre : St → List St
  | .mv a b => [.mv a b]
  | .iff a b x y => .iff a b x y :: (preL x ++ preL y)
  | .ev a x y z => .ev a x y z :: (preL x ++ (preL y ++ preL z))
  | .pf a b c x => .pf a b c x :: preL x
  | .br k a x y => .br k a x y :: (preL x ++ preL y)
noncomputable def preL : List St → List St
  | [] => []
  | s :: r => s.pre ++ preL r
end
mutual
noncomputable def St.post : St → List St
  | .mv a b => [.mv a b]
  | .iff a b x y => (postL x ++ postL y) ++ [.iff a b x y]
  | .ev a x y z => (postL x ++ (postL y ++ postL z)) ++ [.ev a x y z]
  | .pf a b c x => postL x ++ [.pf a b c x]
  | .br k a x y => (postL x ++ postL y) ++ [.br k a x y]
noncomputable def postL : List St → List St
  | [] => []
  | s :: r => s.post ++ postL r
end
noncomputable def St.refs : St → List Rf
  | .mv a b => a.flat ++ b.flat
  | .iff a b _ _ => a.flat ++ b.flat
  | .ev a _ _ _ => a.flat
  | .pf a b c _ => a.flat ++ (b.flat ++ c.flat)
  | .br k a _ _ => if k = 0 then a.flat else a.flat ++ a.flat
theorem toDs_append (m : Str) : ∀ x y : List St, toDs m (x ++ y) = toDs m x ++ toDs m y
  | [], y => by rw [toDs.eq_1]; rfl
  | s :: r, y => by rw [List.cons_append, toDs.eq_2, toDs.eq_2, List.cons_append, toDs_append m r y]
theorem toDs_map (m : Str) : ∀ x : List St, toDs m x = x.map (St.toD m)
  | [] => by rw [toDs.eq_1]; rfl
  | s :: r => by rw [toDs.eq_2, List.map_cons, toDs_map m r]

/-- n statements, each by mk -/
noncomputable def bodyF (mk : Tape → Nat → St × Tape) : Nat → Tape → Nat → List St × Tape
  | 0, T, _ => ([], T)
  | n + 1, T, len => ((mk T len).1 :: (bodyF mk n (mk T len).2 (len + (mk T len).1.pre.length)).1, (bodyF mk n (mk T len).2 (len + (mk T len).1.pre.length)).2)
noncomputable def bodyAt (mk : Tape → Nat → St × Tape) (T : Tape) (len : Nat) : List St × Tape := bodyF mk (dval 3 T).toNat (dnew 3 T) len
noncomputable def mvF (T : Tape) : St × Tape := (.mv (refF 3 T).1 (refF 3 (refF 3 T).2).1, (refF 3 (refF 3 T).2).2)
noncomputable def iffF (mk : Tape → Nat → St × Tape) (T : Tape) (len : Nat) : St × Tape :=
  let a := refF 3 T; let b := refF 3 a.2; let x := bodyAt mk b.2 (len + 1); let y := bodyAt mk x.2 (len + 1 + (preL x.1).length)
  (.iff a.1 b.1 x.1 y.1, y.2)
noncomputable def evF (mk : Tape → Nat → St × Tape) (T : Tape) (len : Nat) : St × Tape :=
  let a := refF 3 T; let x := bodyAt mk a.2 (len + 1); let y := bodyAt mk x.2 (len + 1 + (preL x.1).length); let z := bodyAt mk y.2 (len + 1 + (preL x.1).length + (preL y.1).length)
  (.ev a.1 x.1 y.1 z.1, z.2)
noncomputable def pfF (mk : Tape → Nat → St × Tape) (T : Tape) (len : Nat) : St × Tape :=
  let a := refF 3 T; let b := refF 3 a.2; let c := refF 3 b.2; let x := bodyAt mk c.2 (len + 1)
  (.pf a.1 b.1 c.1 x.1, x.2)
noncomputable def brF (mk : Tape → Nat → St × Tape) (T : Tape) (len : Nat) : St × Tape :=
  let a := refF 3 T; let x := bodyAt mk (dnew 3 a.2) (len + 1); let y := bodyAt mk x.2 (len + 1 + (preL x.1).length)
  (.br (dval 3 a.2) a.1 x.1 y.1, y.2)
noncomputable def madeF : Nat → Tape → Nat → St × Tape
  | 0, T, _ => mvF T
  | d + 1, T, len => if len < 10 then
      (if dval 5 T = 1 then iffF (madeF d) (dnew 5 T) len else if dval 5 T = 2 then evF (madeF d) (dnew 5 T) len else if dval 5 T = 3 then pfF (madeF d) (dnew 5 T) len
        else if dval 5 T = 4 then brF (madeF d) (dnew 5 T) len else mvF (dnew 5 T))
    else mvF T
/-- how many draws at most -/
noncomputable def drawsAt : Nat → Int
  | 0 => 16
  | d + 1 => 30 + 3 * (1 + 2 * drawsAt d)

section
variable {mk : Tape → Nat → St × Tape}
theorem bodyF_ok (h : ∀ T len, TapeOk T → TapeOk (mk T len).2) : ∀ (n : Nat) (T : Tape) (len : Nat), TapeOk T → TapeOk (bodyF mk n T len).2
  | 0, T, len, o => o
  | n + 1, T, len, o => bodyF_ok h n _ _ (h T len o)
theorem bodyAt_ok (h : ∀ T len, TapeOk T → TapeOk (mk T len).2) {T : Tape} {len : Nat} (o : TapeOk T) : TapeOk (bodyAt mk T len).2 := bodyF_ok h _ _ _ (dnew_ok o)
theorem bodyF_t {c : Int} (hc : 0 ≤ c) (h : ∀ T len, (mk T len).2.t ≤ T.t + c) : ∀ (n : Nat) (T : Tape) (len : Nat), (bodyF mk n T len).2.t ≤ T.t + n * c
  | 0, T, len => by show T.t ≤ _; simp
  | n + 1, T, len => by
    have h1 := bodyF_t hc h n (mk T len).2 (len + (mk T len).1.pre.length)
    have h2 := h T len
    show (bodyF mk n (mk T len).2 _).2.t ≤ _
    have e : ((n + 1 : Nat) : Int) * c = n * c + c := by rw [Int.natCast_add, Int.add_mul]; simp
    rw [e]; lia
theorem nat2 (T : Tape) : (dval 3 T).toNat ≤ 2 := by have := dval_range (T := T) (lim := 3) (by decide); lia
theorem bodyAt_t {c : Int} (hc : 0 ≤ c) (h : ∀ T len, (mk T len).2.t ≤ T.t + c) (T : Tape) (len : Nat) : (bodyAt mk T len).2.t ≤ T.t + 1 + 2 * c := by
  have h1 := bodyF_t hc h (dval 3 T).toNat (dnew 3 T) len
  have h2 : ((dval 3 T).toNat : Int) * c ≤ 2 * c := Int.mul_le_mul_of_nonneg_right (by have := nat2 T; lia) hc
  have e : (dnew 3 T).t = T.t + 1 := rfl
  show (bodyF mk _ _ _).2.t ≤ _
  lia
theorem bodyF_cnt {c : Nat} (h : ∀ T len, (mk T len).1.pre.length ≤ c) : ∀ (n : Nat) (T : Tape) (len : Nat), (preL (bodyF mk n T len).1).length ≤ n * c
  | 0, T, len => by show (preL []).length ≤ _; rw [preL.eq_1]; simp
  | n + 1, T, len => by
    have h1 := bodyF_cnt h n (mk T len).2 (len + (mk T len).1.pre.length)
    have h2 := h T len
    show (preL (_ :: _)).length ≤ _
    rw [preL.eq_2, List.length_append, Nat.succ_mul]; lia
theorem bodyAt_cnt {c : Nat} (h : ∀ T len, (mk T len).1.pre.length ≤ c) (T : Tape) (len : Nat) : (preL (bodyAt mk T len).1).length ≤ 2 * c :=
  Nat.le_trans (bodyF_cnt h _ _ _) (Nat.mul_le_mul_right _ (nat2 T))
end
mutual
theorem post_len : ∀ s : St, s.post.length = s.pre.length
  | .mv a b => by rw [St.post.eq_1, St.pre.eq_1]
  | .iff a b x y => by rw [St.post.eq_2, St.pre.eq_2]; simp [postL_len x, postL_len y]; lia
  | .ev a x y z => by rw [St.post.eq_3, St.pre.eq_3]; simp [postL_len x, postL_len y, postL_len z]; lia
  | .pf a b c x => by rw [St.post.eq_4, St.pre.eq_4]; simp [postL_len x]
  | .br k a x y => by rw [St.post.eq_5, St.pre.eq_5]; simp [postL_len x, postL_len y]; lia
theorem postL_len : ∀ s : List St, (postL s).length = (preL s).length
  | [] => by rw [postL.eq_1, preL.eq_1]
  | s :: r => by rw [postL.eq_2, preL.eq_2, List.length_append, List.length_append, post_len s, postL_len r]
end
theorem toDs_len (m : Str) (x : List St) : (toDs m x).length = x.length := by rw [toDs_map, List.length_map]
theorem pre_head (s : St) : ∃ l, s.pre = s :: l := by
  cases s
  · exact ⟨_, St.pre.eq_1 _ _⟩
  · exact ⟨_, St.pre.eq_2 _ _ _ _⟩
  · exact ⟨_, St.pre.eq_3 _ _ _ _⟩
  · exact ⟨_, St.pre.eq_4 _ _ _ _⟩
  · exact ⟨_, St.pre.eq_5 _ _ _ _⟩
noncomputable def cntAt : Nat → Nat
  | 0 => 1
  | d + 1 => 1 + 6 * cntAt d
theorem draws_pos : ∀ d, 0 ≤ drawsAt d
  | 0 => by decide
  | d + 1 => by have := draws_pos d; show 0 ≤ 30 + 3 * (1 + 2 * drawsAt d); lia
theorem cnt_pos : ∀ d, 1 ≤ cntAt d
  | 0 => by decide
  | d + 1 => by show 1 ≤ 1 + 6 * cntAt d; lia
theorem ref3_t (T : Tape) : (refF 3 T).2.t ≤ T.t + 8 := by have := (refF_t 3 T).1; lia
structure MkOk (mk : Tape → Nat → St × Tape) (c : Int) (n : Nat) : Prop where
  ok : ∀ T len, TapeOk T → TapeOk (mk T len).2
  t : ∀ T len, (mk T len).2.t ≤ T.t + c
  cnt : ∀ T len, (mk T len).1.pre.length ≤ n
theorem mvF_ok : MkOk (fun T _ => mvF T) 16 1 where
  ok := fun T len o => refF_ok _ _ (refF_ok _ _ o)
  t := fun T len => by have h1 := ref3_t T; have h2 := ref3_t (refF 3 T).2; show (refF 3 (refF 3 T).2).2.t ≤ _; lia
  cnt := fun T len => by show (St.pre (.mv _ _)).length ≤ 1; rw [St.pre.eq_1]; simp
theorem arA {t t5 a b c e D : Int} (q : t5 = t + 1) (h1 : a ≤ t5 + 8) (h2 : b ≤ a + 8) (h3 : c ≤ b + 1 + 2 * D) (h4 : e ≤ c + 1 + 2 * D) (hp : 0 ≤ D) : e ≤ t + (30 + 3 * (1 + 2 * D)) := by lia
theorem arB {t t5 a b c e D : Int} (q : t5 = t + 1) (h1 : a ≤ t5 + 8) (h2 : b ≤ a + 1 + 2 * D) (h3 : c ≤ b + 1 + 2 * D) (h4 : e ≤ c + 1 + 2 * D) : e ≤ t + (30 + 3 * (1 + 2 * D)) := by lia
theorem arC {t t5 a b c e D : Int} (q : t5 = t + 1) (h1 : a ≤ t5 + 8) (h2 : b ≤ a + 8) (h3 : c ≤ b + 8) (h4 : e ≤ c + 1 + 2 * D) (hp : 0 ≤ D) : e ≤ t + (30 + 3 * (1 + 2 * D)) := by lia
theorem arD {t t5 a b c e D : Int} (q : t5 = t + 1) (h1 : a ≤ t5 + 8) (h2 : b = a + 1) (h3 : c ≤ b + 1 + 2 * D) (h4 : e ≤ c + 1 + 2 * D) (hp : 0 ≤ D) : e ≤ t + (30 + 3 * (1 + 2 * D)) := by lia
theorem arE {t t5 e D : Int} (q : t5 = t + 1) (h : e ≤ t5 + 16) (hp : 0 ≤ D) : e ≤ t + (30 + 3 * (1 + 2 * D)) := by lia
theorem arF {t e D : Int} (h : e ≤ t + 16) (hp : 0 ≤ D) : e ≤ t + (30 + 3 * (1 + 2 * D)) := by lia
theorem cn2 {a b C : Nat} (h1 : a ≤ 2 * C) (h2 : b ≤ 2 * C) : a + b + 1 ≤ 1 + 6 * C := by lia
theorem cn3 {a b c C : Nat} (h1 : a ≤ 2 * C) (h2 : b ≤ 2 * C) (h3 : c ≤ 2 * C) : a + (b + c) + 1 ≤ 1 + 6 * C := by lia
theorem cn3' {a b c C : Nat} (h1 : a ≤ 2 * C) (h2 : b ≤ 2 * C) (h3 : c ≤ 2 * C) : a + b + c + 1 ≤ 1 + 6 * C := by lia
theorem cn1 {a C : Nat} (h1 : a ≤ 2 * C) : a + 1 ≤ 1 + 6 * C := by lia
theorem cn0 {a C : Nat} (h1 : a ≤ 1) : a ≤ 1 + 6 * C := by lia
theorem madeF_mk : ∀ d, MkOk (madeF d) (drawsAt d) (cntAt d)
  | 0 => ⟨mvF_ok.ok, mvF_ok.t, mvF_ok.cnt⟩
  | d + 1 => by
    have M := madeF_mk d
    have hp := draws_pos d
    have hc := cnt_pos d
    have r := ref3_t
    have bt := bodyAt_t hp M.t
    have bc := bodyAt_cnt M.cnt
    have bo : ∀ {T len}, TapeOk T → TapeOk (bodyAt (madeF d) T len).2 := fun o => bodyAt_ok M.ok o
    have e5 : ∀ lim T, (dnew lim T).t = T.t + 1 := fun _ _ => rfl
    have ed : drawsAt (d + 1) = 30 + 3 * (1 + 2 * drawsAt d) := rfl
    have ec : cntAt (d + 1) = 1 + 6 * cntAt d := rfl
    have em : ∀ T len, madeF (d + 1) T len = if len < 10 then
      (if dval 5 T = 1 then iffF (madeF d) (dnew 5 T) len else if dval 5 T = 2 then evF (madeF d) (dnew 5 T) len else if dval 5 T = 3 then pfF (madeF d) (dnew 5 T) len
        else if dval 5 T = 4 then brF (madeF d) (dnew 5 T) len else mvF (dnew 5 T))
      else mvF T := fun T len => by rw [madeF.eq_2]
    refine ⟨fun T len o => ?_, fun T len => ?_, fun T len => ?_⟩
    · rw [em]
      have o5 : TapeOk (dnew 5 T) := dnew_ok o
      repeat' split
      · exact bo (bo (refF_ok _ _ (refF_ok _ _ o5)))
      · exact bo (bo (bo (refF_ok _ _ o5)))
      · exact bo (refF_ok _ _ (refF_ok _ _ (refF_ok _ _ o5)))
      · exact bo (bo (dnew_ok (refF_ok _ _ o5)))
      · exact mvF_ok.ok _ len o5
      · exact mvF_ok.ok _ len o
    · rw [em]
      repeat' split
      · exact arA (e5 5 T) (r _) (r _) (bt _ _) (bt _ _) hp
      · exact arB (e5 5 T) (r _) (bt _ _) (bt _ _) (bt _ _)
      · exact arC (e5 5 T) (r _) (r _) (r _) (bt _ _) hp
      · exact arD (e5 5 T) (r _) (e5 3 _) (bt _ _) (bt _ _) hp
      · exact arE (e5 5 T) (mvF_ok.t (dnew 5 T) len) hp
      · exact arF (mvF_ok.t T len) hp
    · rw [em]
      repeat' split
      · unfold iffF; dsimp only
        rw [St.pre.eq_2, List.length_cons, List.length_append]; exact cn2 (bc _ _) (bc _ _)
      · unfold evF; dsimp only
        rw [St.pre.eq_3, List.length_cons, List.length_append, List.length_append]; first | exact cn3 (bc _ _) (bc _ _) (bc _ _) | exact cn3' (bc _ _) (bc _ _) (bc _ _)
      · unfold pfF; dsimp only
        rw [St.pre.eq_4, List.length_cons]; exact cn1 (bc _ _)
      · unfold brF; dsimp only
        rw [St.pre.eq_5, List.length_cons, List.length_append]; exact cn2 (bc _ _) (bc _ _)
      · exact cn0 (mvF_ok.cnt (dnew 5 T) len)
      · exact cn0 (mvF_ok.cnt T len)
theorem preL_append : ∀ x y : List St, preL (x ++ y) = preL x ++ preL y
  | [], y => by rw [preL.eq_1]; rfl
  | s :: r, y => by rw [List.cons_append, preL.eq_2, preL.eq_2, preL_append r y, List.append_assoc]
theorem postL_append : ∀ x y : List St, postL (x ++ y) = postL x ++ postL y
  | [], y => by rw [postL.eq_1]; rfl
  | s :: r, y => by rw [List.cons_append, postL.eq_2, postL.eq_2, postL_append r y, List.append_assoc]
theorem preL_one (s : St) : preL [s] = s.pre := by rw [preL.eq_2, preL.eq_1, List.append_nil]
theorem postL_one (s : St) : postL [s] = s.post := by rw [postL.eq_2, postL.eq_1, List.append_nil]
theorem toDs_one (m : Str) (s : St) : toDs m [s] = [s.toD m] := by rw [toDs.eq_2, toDs.eq_1]
theorem toDs_pre {P : Addr → Obj → Prop} {m : Str} {s : St} {v : Value} {vs : List Value} (x : Dvs P (v :: vs) (toDs m s.pre)) : Dv P v (s.toD m) := by
  obtain ⟨l, e⟩ := pre_head s
  rw [e, toDs.eq_2] at x
  cases x with
  | cons h _ => exact h
theorem bodyF_len {mk : Tape → Nat → St × Tape} : ∀ (n : Nat) (T : Tape) (len : Nat), (bodyF mk n T len).1.length = n
  | 0, T, len => rfl
  | n + 1, T, len => by show (_ :: _).length = _; rw [List.length_cons, bodyF_len n]
theorem made_neg {d : Nat} {T : Tape} {len : Nat} (h : ¬ len < 10) : madeF (d + 1) T len = (.mv (refF 3 T).1 (refF 3 (refF 3 T).2).1, (refF 3 (refF 3 T).2).2) := by rw [madeF.eq_2, if_neg h]; rfl
theorem made_z {T : Tape} {len : Nat} : madeF 0 T len = (.mv (refF 3 T).1 (refF 3 (refF 3 T).2).1, (refF 3 (refF 3 T).2).2) := by rw [madeF.eq_1]; rfl
theorem made_0 {d : Nat} {T : Tape} {len : Nat} (h : len < 10) (k : dval 5 T = 0) : madeF (d + 1) T len = (.mv (refF 3 (dnew 5 T)).1 (refF 3 (refF 3 (dnew 5 T)).2).1, (refF 3 (refF 3 (dnew 5 T)).2).2) := by
  rw [madeF.eq_2, if_pos h, k]; rfl
theorem made_1 {d : Nat} {T : Tape} {len n1 n2 : Nat} (h : len < 10) (k : dval 5 T = 1) (e1 : n1 = len + 1) (e2 : n2 = len + 1 + (preL (bodyAt (madeF d) (refF 3 (refF 3 (dnew 5 T)).2).2 n1).1).length) :
    madeF (d + 1) T len = (.iff (refF 3 (dnew 5 T)).1 (refF 3 (refF 3 (dnew 5 T)).2).1 (bodyAt (madeF d) (refF 3 (refF 3 (dnew 5 T)).2).2 n1).1 (bodyAt (madeF d) (bodyAt (madeF d) (refF 3 (refF 3 (dnew 5 T)).2).2 n1).2 n2).1,
      (bodyAt (madeF d) (bodyAt (madeF d) (refF 3 (refF 3 (dnew 5 T)).2).2 n1).2 n2).2) := by
  rw [madeF.eq_2, if_pos h, if_pos k, e2, e1]; rfl
theorem made_2 {d : Nat} {T : Tape} {len n1 n2 n3 : Nat} (h : len < 10) (k : dval 5 T = 2) (e1 : n1 = len + 1) (e2 : n2 = len + 1 + (preL (bodyAt (madeF d) (refF 3 (dnew 5 T)).2 n1).1).length)
    (e3 : n3 = len + 1 + (preL (bodyAt (madeF d) (refF 3 (dnew 5 T)).2 n1).1).length + (preL (bodyAt (madeF d) (bodyAt (madeF d) (refF 3 (dnew 5 T)).2 n1).2 n2).1).length) :
    madeF (d + 1) T len = (.ev (refF 3 (dnew 5 T)).1 (bodyAt (madeF d) (refF 3 (dnew 5 T)).2 n1).1 (bodyAt (madeF d) (bodyAt (madeF d) (refF 3 (dnew 5 T)).2 n1).2 n2).1 (bodyAt (madeF d) (bodyAt (madeF d) (bodyAt (madeF d) (refF 3 (dnew 5 T)).2 n1).2 n2).2 n3).1,
      (bodyAt (madeF d) (bodyAt (madeF d) (bodyAt (madeF d) (refF 3 (dnew 5 T)).2 n1).2 n2).2 n3).2) := by
  rw [madeF.eq_2, if_pos h, if_neg (by lia), if_pos k, e3, e2, e1]; rfl
theorem made_3 {d : Nat} {T : Tape} {len n1 : Nat} (h : len < 10) (k : dval 5 T = 3) (e1 : n1 = len + 1) :
    madeF (d + 1) T len = (.pf (refF 3 (dnew 5 T)).1 (refF 3 (refF 3 (dnew 5 T)).2).1 (refF 3 (refF 3 (refF 3 (dnew 5 T)).2).2).1 (bodyAt (madeF d) (refF 3 (refF 3 (refF 3 (dnew 5 T)).2).2).2 n1).1, (bodyAt (madeF d) (refF 3 (refF 3 (refF 3 (dnew 5 T)).2).2).2 n1).2) := by
  rw [madeF.eq_2, if_pos h, if_neg (by lia), if_neg (by lia), if_pos k, e1]; rfl
theorem made_4 {d : Nat} {T : Tape} {len n1 n2 : Nat} (h : len < 10) (k : dval 5 T = 4) (e1 : n1 = len + 1) (e2 : n2 = len + 1 + (preL (bodyAt (madeF d) (dnew 3 (refF 3 (dnew 5 T)).2) n1).1).length) :
    madeF (d + 1) T len = (.br (dval 3 (refF 3 (dnew 5 T)).2) (refF 3 (dnew 5 T)).1 (bodyAt (madeF d) (dnew 3 (refF 3 (dnew 5 T)).2) n1).1 (bodyAt (madeF d) (bodyAt (madeF d) (dnew 3 (refF 3 (dnew 5 T)).2) n1).2 n2).1,
      (bodyAt (madeF d) (bodyAt (madeF d) (dnew 3 (refF 3 (dnew 5 T)).2) n1).2 n2).2) := by
  rw [madeF.eq_2, if_pos h, if_neg (by lia), if_neg (by lia), if_neg (by lia), if_pos k, e2, e1]; rfl
theorem len_none {v0 : List Value} {x : Value} : (v0 ++ [x]).length = v0.length + 1 := by simp
theorem len_mid {P : Addr → Obj → Prop} {v0 vs : List Value} {x : Value} {m : Str} {l : List St} (dv : Dvs P vs (toDs m l)) : (v0 ++ x :: vs).length = v0.length + 1 + l.length := by
  have := dv.length; rw [toDs_len] at this
  rw [List.length_append, List.length_cons]; lia
theorem len_mid2 {P P' : Addr → Obj → Prop} {v0 vs ws : List Value} {x : Value} {m : Str} {l k : List St} (dv : Dvs P vs (toDs m l)) (dw : Dvs P' ws (toDs m k)) : (v0 ++ x :: (vs ++ ws)).length = v0.length + 1 + l.length + k.length := by
  have := dv.length; rw [toDs_len] at this
  have := dw.length; rw [toDs_len] at this
  rw [List.length_append, List.length_cons, List.length_append]; lia
theorem refs_br0 {a : Rf} {x y : List St} : (St.br 0 a x y).refs = a.flat := rfl
theorem refs_br1 {a : Rf} {x y : List St} : (St.br 1 a x y).refs = a.flat ++ a.flat := rfl
theorem refs_br2 {a : Rf} {x y : List St} : (St.br 2 a x y).refs = a.flat ++ a.flat := rfl
theorem brHead0 {m : Str} {a : Rf} : brHead 0 m a = [sS "read", sS "F", .bool true, a.toD m, .none] := rfl
theorem brHead1 {m : Str} {a : Rf} : brHead 1 m a = [sS "call", a.toD m, .tup [.tup [sS "content", a.toD m]]] := rfl
theorem brHead2 {m : Str} {a : Rf} : brHead 2 m a = [sS "search-all", a.toD m, .tup [sS "named", a.toD m]] := rfl
theorem brHeadX {k : Int} (h0 : k ≠ 0) (h1 : k ≠ 1) {m : Str} {a : Rf} : brHead k m a = [sS "search-all", a.toD m, .tup [sS "named", a.toD m]] := by unfold brHead; rw [if_neg h0, if_neg h1]

/-- the pairs (statement, its references' list): the tuples by P, the lists by fz -/
inductive Prs (P : Addr → Obj → Prop) (fz : List (Addr × Obj)) (m : Str) : List Value → List St → Prop
  | nil : Prs P fz m [] []
  | cons {p q : Addr} {x : Value} {n nq : Nat} {rvs vs : List Value} {st : St} {ss : List St} : P p (tupOf [x, .ref q] n) → Dv P x (st.toD m) → (q, listOf rvs.toArray nq) ∈ fz → Dvs P rvs (st.refs.map (Rf.toD m)) → Prs P fz m vs ss →
      Prs P fz m (.ref p :: vs) (st :: ss)
theorem Prs.mono {P P' : Addr → Obj → Prop} {fz fz' : List (Addr × Obj)} {m : Str} (h : ∀ a vs n, P a (tupOf vs n) → P' a (tupOf vs n)) (hf : ∀ p ∈ fz, p ∈ fz') {vs : List Value} {ss : List St} (x : Prs P fz m vs ss) : Prs P' fz' m vs ss :=
  Prs.rec (motive := fun vs ss _ => Prs P' fz' m vs ss) .nil (fun a b c d _ ih => .cons (h _ _ _ a) (b.mono h) (hf _ c) (d.mono h) ih) x
theorem Prs.append {P : Addr → Obj → Prop} {fz : List (Addr × Obj)} {m : Str} {vs ws : List Value} {ss ts : List St} (x : Prs P fz m vs ss) (k : Prs P fz m ws ts) : Prs P fz m (vs ++ ws) (ss ++ ts) :=
  Prs.rec (motive := fun vs ss _ => Prs P fz m (vs ++ ws) (ss ++ ts)) k (fun a b c d _ ih => .cons a b c d ih) x
theorem Prs.length {P : Addr → Obj → Prop} {fz : List (Addr × Obj)} {m : Str} {vs : List Value} {ss : List St} (x : Prs P fz m vs ss) : vs.length = ss.length :=
  Prs.rec (motive := fun vs ss _ => vs.length = ss.length) rfl (fun _ _ _ _ _ ih => congrArg Nat.succ ih) x

structure Lists where
  v0 : List Value
  v1 : List Value
  v2 : List Value
noncomputable def NotesAt (h : Heap) (aN a0 a1 a2 : Nat) (l : Lists) : Prop :=
  ∃ nN n0 n1 n2, h.get? aN = some (listOf [.ref a0, .ref a1, .ref a2].toArray nN) ∧ h.get? a0 = some (listOf l.v0.toArray n0) ∧ h.get? a1 = some (listOf l.v1.toArray n1) ∧ h.get? a2 = some (listOf l.v2.toArray n2)

/-- the statement of both: of one statement (sts = [it]; its value the head of the first list) and of a body (a tuple) -/
noncomputable def Left (h h' : Heap) (aT aC aN a0 a1 a2 : Nat) (T : Tape) (l : Lists) (m : Str) (vs0 vs1 vs2 : List Value) (pre post : List St) (fz : List (Addr × Obj)) : Prop :=
  Kp [aT, aC, a0, a1, a2] h h' ∧ TapeAt h' aT aC T ∧ NotesAt h' aN a0 a1 a2 ⟨l.v0 ++ vs0, l.v1 ++ vs1, l.v2 ++ vs2⟩ ∧
    Dvs (Nv h h') vs0 (toDs m pre) ∧ Dvs (Nv h h') vs1 (toDs m post) ∧ Prs (Nv h h') fz m vs2 post ∧ ∀ p ∈ fz, h'.get? p.1 = some p.2 ∧ h.objs.size ≤ p.1

noncomputable def MadeSpec (prog : Program) (w : World) (d : Nat) : Prop := ∀ {A : Around} {s : Shared} {G : Heap} {R : Result → Shared → Prop} {aT aC aN a0 a1 a2 : Nat} {T : Tape} {l : Lists} {mt dt : Nat} {mark : Str},
  Base w G → G.StaysIn s.heap → TapeAt s.heap aT aC T → TapeOk T → NotesAt s.heap aN a0 a1 a2 l → (∀ a ∈ [aT, aC, aN, a0, a1, a2], G.get? a = none) → [aT, aC, aN, a0, a1, a2].Nodup →
  l.v0.length + cntAt d ≤ 5000 → l.v1.length + cntAt d ≤ 5000 → l.v2.length + cntAt d ≤ 5000 → T.t + drawsAt d < 80000 → mark.length = 1 →
  A.handled = none → A.depth + 5 * d < 800 → A.units + 20 * d < 4500 →
  (∀ h' tk' r vs0 vs1 vs2 fz, Left s.heap h' aT aC aN a0 a1 a2 (madeF d T l.v0.length).2 l mark (r :: vs0) vs1 vs2 (madeF d T l.v0.length).1.pre (madeF d T l.v0.length).1.post fz → R (.ok (.ret r)) { s with heap := h', toks := tk' }) →
  codeAny (model prog w) A (.call (.ref 97) ⟨[.ref aT, .str mark mt, .int d dt, .ref aN], []⟩) R s

noncomputable def MadeIf (C : Tape → Nat → Prop) (prog : Program) (w : World) (d : Nat) : Prop := ∀ {A : Around} {s : Shared} {G : Heap} {R : Result → Shared → Prop} {aT aC aN a0 a1 a2 : Nat} {T : Tape} {l : Lists} {mt dt : Nat} {mark : Str},
  C T l.v0.length → Base w G → G.StaysIn s.heap → TapeAt s.heap aT aC T → TapeOk T → NotesAt s.heap aN a0 a1 a2 l → (∀ a ∈ [aT, aC, aN, a0, a1, a2], G.get? a = none) → [aT, aC, aN, a0, a1, a2].Nodup →
  l.v0.length + cntAt d ≤ 5000 → l.v1.length + cntAt d ≤ 5000 → l.v2.length + cntAt d ≤ 5000 → T.t + drawsAt d < 80000 → mark.length = 1 →
  A.handled = none → A.depth + 5 * d < 800 → A.units + 20 * d < 4500 →
  (∀ h' tk' r vs0 vs1 vs2 fz, Left s.heap h' aT aC aN a0 a1 a2 (madeF d T l.v0.length).2 l mark (r :: vs0) vs1 vs2 (madeF d T l.v0.length).1.pre (madeF d T l.v0.length).1.post fz → R (.ok (.ret r)) { s with heap := h', toks := tk' }) →
  codeAny (model prog w) A (.call (.ref 97) ⟨[.ref aT, .str mark mt, .int d dt, .ref aN], []⟩) R s

noncomputable def BodySpec (prog : Program) (w : World) (d : Nat) : Prop := ∀ {A : Around} {s : Shared} {G : Heap} {R : Result → Shared → Prop} {aT aC aN a0 a1 a2 : Nat} {T : Tape} {l : Lists} {mt dt : Nat} {mark : Str},
  Base w G → G.StaysIn s.heap → TapeAt s.heap aT aC T → TapeOk T → NotesAt s.heap aN a0 a1 a2 l → (∀ a ∈ [aT, aC, aN, a0, a1, a2], G.get? a = none) → [aT, aC, aN, a0, a1, a2].Nodup →
  l.v0.length + 2 * cntAt d ≤ 5000 → l.v1.length + 2 * cntAt d ≤ 5000 → l.v2.length + 2 * cntAt d ≤ 5000 → T.t + 1 + 2 * drawsAt d < 80000 → mark.length = 1 →
  A.handled = none → A.depth + 5 * d + 1 < 800 → A.units + 20 * d + 3 < 4500 →
  (∀ h' tk' r vs0 vs1 vs2 fz, Left s.heap h' aT aC aN a0 a1 a2 (bodyAt (madeF d) T l.v0.length).2 l mark vs0 vs1 vs2 (preL (bodyAt (madeF d) T l.v0.length).1) (postL (bodyAt (madeF d) T l.v0.length).1) fz →
    Dv (Nv s.heap h') r (.tup (toDs mark (bodyAt (madeF d) T l.v0.length).1)) → R (.ok (.ret r)) { s with heap := h', toks := tk' }) →
  codeAny (model prog w) A (.call (.ref 90) ⟨[.ref aT, .str mark mt, .int d dt, .ref aN], []⟩) R s

theorem all6 {α : Type} {P : α → Prop} {a b c d e f : α} : (∀ x ∈ [a, b, c, d, e, f], P x) ↔ P a ∧ P b ∧ P c ∧ P d ∧ P e ∧ P f := by
  constructor
  · intro h
    exact ⟨h _ (by simp), h _ (by simp), h _ (by simp), h _ (by simp), h _ (by simp), h _ (by simp)⟩
  · rintro ⟨h1, h2, h3, h4, h5, h6⟩ x hx
    simp only [List.mem_cons, List.not_mem_nil, or_false] at hx
    rcases hx with rfl | rfl | rfl | rfl | rfl | rfl <;> assumption
section
theorem lists_nd {aT aC aN a0 a1 a2 : Nat} (nd : [aT, aC, aN, a0, a1, a2].Nodup) : (aT ≠ aC ∧ aT ≠ aN ∧ aT ≠ a0 ∧ aT ≠ a1 ∧ aT ≠ a2) ∧ (aC ≠ aN ∧ aC ≠ a0 ∧ aC ≠ a1 ∧ aC ≠ a2) ∧ (aN ≠ a0 ∧ aN ≠ a1 ∧ aN ≠ a2) ∧ (a0 ≠ a1 ∧ a0 ≠ a2) ∧ a1 ≠ a2 := by
  simp only [List.nodup_cons, List.mem_cons, List.not_mem_nil, or_false, not_or] at nd
  obtain ⟨⟨h1, h2, h3, h4, h5⟩, ⟨h6, h7, h8, h9⟩, ⟨h10, h11, h12⟩, ⟨h13, h14⟩, h15, _⟩ := nd
  exact ⟨⟨h1, h2, h3, h4, h5⟩, ⟨h6, h7, h8, h9⟩, ⟨h10, h11, h12⟩, ⟨h13, h14⟩, h15⟩

variable {g h h' : Heap} {L : Addr} {m : Str → Option Value} {led rest : List (Addr × Obj)} {aT aC aN a0 a1 a2 : Nat} {T : Tape} {l : Lists} {mk : Str} {vs0 vs1 vs2 : List Value} {pre post : List St} {fz : List (Addr × Obj)}
/-- what stands in the caller's frame behind a call that leaves Left -/
inductive LeftB (g : Heap) (L : Nat) (h h' : Heap) (m : Str → Option Value) (led rest : List (Addr × Obj)) (aT aC a0 a1 a2 : Nat) (T : Tape) (l : Lists) (mk : Str) (vs0 vs1 vs2 : List Value) (pre post : List St) (fz : List (Addr × Obj)) : Prop
  | mk (imm : List (Addr × Obj)) (vs : List Value) (tk n nc n0 n1 n2 : Nat) (F : Fr g L h' m) (ct : AllTup imm) (hi : IntsAre vs T.cells) (N : News g L h' ((aT, listOf [.ref aC, .int T.t tk].toArray n) :: (aC, listOf vs.toArray nc) :: (a0, listOf (l.v0 ++ vs0).toArray n0) :: (a1, listOf (l.v1 ++ vs1).toArray n1) :: (a2, listOf (l.v2 ++ vs2).toArray n2) :: (rest ++ (fz ++ imm)))) (lo : (∀ p ∈ fz, ∀ q ∈ led, q.1 < p.1)) (lo2 : (∀ p ∈ imm, ∀ q ∈ led, p.1 ≠ q.1)) (lz : (∀ p ∈ fz, L < p.1)) (d0 : Dvs (Iv imm) vs0 (toDs mk pre)) (d1 : Dvs (Iv imm) vs1 (toDs mk post)) (d2 : Prs (Iv imm) fz mk vs2 post) (tot : (∀ a vs n, Nv h h' a (tupOf vs n) → Iv imm a (tupOf vs n))) : LeftB g L h h' m led rest aT aC a0 a1 a2 T l mk vs0 vs1 vs2 pre post fz
theorem left_back (F : Fr g L h m) (N : News g L h led) (hT : ∃ o, (aT, o) ∈ led ∧ o.cls ≠ .type "tuple") (hC : ∃ o, (aC, o) ∈ led ∧ o.cls ≠ .type "tuple") (h0 : ∃ o, (a0, o) ∈ led ∧ o.cls ≠ .type "tuple") (h1 : ∃ o, (a1, o) ∈ led ∧ o.cls ≠ .type "tuple") (h2 : ∃ o, (a2, o) ∈ led ∧ o.cls ≠ .type "tuple")
    (hN : ∃ o, (aN, o) ∈ led) (nd : [aT, aC, aN, a0, a1, a2].Nodup) (hr : Rest [aT, aC, a0, a1, a2] led rest) (x : Left h h' aT aC aN a0 a1 a2 T l mk vs0 vs1 vs2 pre post fz) :
    LeftB g L h h' m led rest aT aC a0 a1 a2 T l mk vs0 vs1 vs2 pre post fz := by
  obtain ⟨k, ⟨tk, n, nc, vs, eT, eC, hi⟩, ⟨nN, n0, n1, n2, eN, e0, e1, e2⟩, dv0, dv1, dv2, hfz⟩ := x
  have hM : ∀ a ∈ [aT, aC, a0, a1, a2], ∃ o, (a, o) ∈ led ∧ o.cls ≠ .type "tuple" := List.forall_mem_cons.mpr ⟨hT, List.forall_mem_cons.mpr ⟨hC, List.forall_mem_cons.mpr ⟨h0, List.forall_mem_cons.mpr ⟨h1, List.forall_mem_cons.mpr ⟨h2, List.forall_mem_nil _⟩⟩⟩⟩⟩
  obtain ⟨F', imm, ct, N', lo, tot⟩ := back2 (mt := [(aT, listOf [.ref aC, .int T.t tk].toArray n), (aC, listOf vs.toArray nc), (a0, listOf (l.v0 ++ vs0).toArray n0), (a1, listOf (l.v1 ++ vs1).toArray n1), (a2, listOf (l.v2 ++ vs2).toArray n2)]) F N k hM hr
    (List.forall_mem_cons.mpr ⟨⟨eT, .head _⟩, List.forall_mem_cons.mpr ⟨⟨eC, .tail _ (.head _)⟩, List.forall_mem_cons.mpr ⟨⟨e0, .tail _ (.tail _ (.head _))⟩, List.forall_mem_cons.mpr ⟨⟨e1, .tail _ (.tail _ (.tail _ (.head _)))⟩, List.forall_mem_cons.mpr ⟨⟨e2, .tail _ (.tail _ (.tail _ (.tail _ (.head _))))⟩, List.forall_mem_nil _⟩⟩⟩⟩⟩)
  refine ⟨imm, vs, tk, n, nc, n0, n1, n2, F', ct, hi, fun p hp => ?_, fun p hp q hq => ?_, lo, fun p hp => Nat.lt_of_lt_of_le F.ns.lt (hfz p hp).2, dv0.mono tot, dv1.mono tot, dv2.mono tot (fun _ h => h), tot⟩
  · have hp : p ∈ [(aT, listOf [.ref aC, .int T.t tk].toArray n), (aC, listOf vs.toArray nc), (a0, listOf (l.v0 ++ vs0).toArray n0), (a1, listOf (l.v1 ++ vs1).toArray n1), (a2, listOf (l.v2 ++ vs2).toArray n2)] ++ (rest ++ (fz ++ imm)) := hp
    rcases List.mem_append.mp hp with hp | hp
    · exact N' p (List.mem_append_left _ hp)
    rcases List.mem_append.mp hp with hp | hp
    · exact N' p (List.mem_append_right _ (List.mem_append_left _ hp))
    rcases List.mem_append.mp hp with hp | hp
    · have fr : h.get? p.1 = none := Heap.get?_none_of_le (hfz p hp).2
      refine ⟨(hfz p hp).1, fun q => ?_, ?_⟩
      · obtain ⟨o, _, _, ho, _⟩ := F.ns
        rw [q, ho] at fr; cases fr
      · cases q : g.get? p.1 with
        | none => rfl
        | some o => have := F.keep _ _ q; rw [fr] at this; cases this
    · exact N' p (List.mem_append_right _ (List.mem_append_right _ hp))
  · exact Nat.lt_of_lt_of_le (Heap.lt_size (N q hq).1) (hfz p hp).2

theorem offz {a : Nat} {o : Obj} (lo : ∀ p ∈ fz, ∀ q ∈ led, q.1 < p.1) (hm : (a, o) ∈ led) : ∀ p ∈ fz, p.1 ≠ a := fun p hp e => by
  have := lo p hp _ hm
  rw [e] at this
  exact Nat.lt_irrefl _ this
theorem off1 {M a : Nat} (h : ∀ p ∈ fz, M < p.1) (ha : a < M) : ∀ p ∈ fz, p.1 ≠ a := fun p hp e => by
  have := h p hp
  rw [e] at this
  exact Nat.lt_irrefl _ (Nat.lt_trans this ha)
theorem off5 {M a b c d e : Nat} (h : ∀ p ∈ fz, M < p.1) (ha : a < M) (hb : b < M) (hc : c < M) (hd : d < M) (he : e < M) : ∀ p ∈ fz, ∀ x ∈ [a, b, c, d, e], p.1 ≠ x := fun p hp x hx => by
  simp only [List.mem_cons, List.not_mem_nil, or_false] at hx
  rcases hx with rfl | rfl | rfl | rfl | rfl
  · exact off1 h ha p hp
  · exact off1 h hb p hp
  · exact off1 h hc p hp
  · exact off1 h hd p hp
  · exact off1 h he p hp
theorem off2 {M a b c : Nat} (h : ∀ p ∈ fz, M < p.1) (ha : a < M) (hb : b < M) (hc : c < M) : ∀ p ∈ fz, ∀ x ∈ [a, b, c], p.1 ≠ x := fun p hp x hx => by
  simp only [List.mem_cons, List.not_mem_nil, or_false] at hx
  rcases hx with rfl | rfl | rfl
  · exact off1 h ha p hp
  · exact off1 h hb p hp
  · exact off1 h hc p hp
theorem offzs {ks : List Nat} (lo : ∀ p ∈ fz, ∀ q ∈ led, q.1 < p.1) (hm : ∀ a ∈ ks, ∃ o, (a, o) ∈ led) : ∀ p ∈ fz, ∀ a ∈ ks, p.1 ≠ a := fun p hp a ha => by
  obtain ⟨o, ho⟩ := hm a ha
  exact offz lo ho p hp
end

section
variable {prog : Program} {w : World} {A : Around} {E : Value → Shared → Prop} {s : Shared} {g : Heap} {L aT aC aN a0 a1 a2 : Nat} {m : Str → Option Value} {led rest : List (Addr × Obj)} {vs v0 v1 v2 : List Value} {nT nC nN n0 n1 n2 tk mt dt d : Nat} {T : Tape} {mark : Str}
theorem call_made {Q : Value → Shared → Prop} (S : MadeSpec prog w d) (B : Base w g) (F : Fr g L s.heap m) (N : News g L s.heap led) (hT : (aT, listOf [.ref aC, .int T.t tk].toArray nT) ∈ led) (hC : (aC, listOf vs.toArray nC) ∈ led) (hN : (aN, listOf [.ref a0, .ref a1, .ref a2].toArray nN) ∈ led)
    (h0 : (a0, listOf v0.toArray n0) ∈ led) (h1 : (a1, listOf v1.toArray n1) ∈ led) (h2 : (a2, listOf v2.toArray n2) ∈ led) (hvs : IntsAre vs T.cells) (ok : TapeOk T) (nd : [aT, aC, aN, a0, a1, a2].Nodup)
    (hr : Rest [aT, aC, a0, a1, a2] led rest) (hl0 : v0.length + cntAt d ≤ 5000) (hl1 : v1.length + cntAt d ≤ 5000) (hl2 : v2.length + cntAt d ≤ 5000) (ht : T.t + drawsAt d < 80000) (hmk : mark.length = 1)
    (hA : A.handled = none) (hd : A.depth + 5 * d < 800) (hu : A.units + 20 * d < 4500)
    (h : ∀ h' tk' r vs0 vs1 vs2 fz imm vs' tk2 n n' n0' n1' n2', Fr g L h' m → AllTup imm → IntsAre vs' (madeF d T v0.length).2.cells → TapeOk (madeF d T v0.length).2 →
      News g L h' ((aT, listOf [.ref aC, .int (madeF d T v0.length).2.t tk2].toArray n) :: (aC, listOf vs'.toArray n') :: (a0, listOf (v0 ++ r :: vs0).toArray n0') :: (a1, listOf (v1 ++ vs1).toArray n1') :: (a2, listOf (v2 ++ vs2).toArray n2') :: (rest ++ (fz ++ imm))) →
      (∀ p ∈ fz, ∀ q ∈ led, q.1 < p.1) → (∀ p ∈ imm, ∀ q ∈ led, p.1 ≠ q.1) → (∀ p ∈ fz, L < p.1) → Dvs (Iv imm) (r :: vs0) (toDs mark (madeF d T v0.length).1.pre) → Dvs (Iv imm) vs1 (toDs mark (madeF d T v0.length).1.post) → Prs (Iv imm) fz mark vs2 (madeF d T v0.length).1.post →
      Q r { s with heap := h', toks := tk' }) :
    wpAny (model prog w) A (call (.ref 97) [.ref aT, .str mark mt, .int d dt, .ref aN]) Q E s := by
  refine wpAny_call (S B F.keep ⟨_, _, _, _, N.get hT, N.get hC, hvs⟩ ok (l := ⟨v0, v1, v2⟩) ⟨_, _, _, _, N.get hN, N.get h0, N.get h1, N.get h2⟩ ?_ nd hl0 hl1 hl2 ht hmk hA hd hu ?_)
  · exact List.forall_mem_cons.mpr ⟨N.fresh hT, List.forall_mem_cons.mpr ⟨N.fresh hC, List.forall_mem_cons.mpr ⟨N.fresh hN, List.forall_mem_cons.mpr ⟨N.fresh h0, List.forall_mem_cons.mpr ⟨N.fresh h1, List.forall_mem_cons.mpr ⟨N.fresh h2, List.forall_mem_nil _⟩⟩⟩⟩⟩⟩
  · intro h' tk' r vs0 vs1 vs2 fz x
    obtain ⟨imm, vs', tk2, n, n', n0', n1', n2', F', ct, hi, N', lo, lo2, lz, d0, d1, d2, tot⟩ := left_back F N ⟨_, hT, list_ne⟩ ⟨_, hC, list_ne⟩ ⟨_, h0, list_ne⟩ ⟨_, h1, list_ne⟩ ⟨_, h2, list_ne⟩ ⟨_, hN⟩ nd hr x
    exact h h' tk' r vs0 vs1 vs2 fz imm vs' tk2 n n' n0' n1' n2' F' ct hi ((madeF_mk d).ok _ _ ok) N' lo lo2 lz d0 d1 d2
theorem call_body {Q : Value → Shared → Prop} {dp : Int} (S : BodySpec prog w d) (B : Base w g) (F : Fr g L s.heap m) (N : News g L s.heap led) (hT : (aT, listOf [.ref aC, .int T.t tk].toArray nT) ∈ led) (hC : (aC, listOf vs.toArray nC) ∈ led) (hN : (aN, listOf [.ref a0, .ref a1, .ref a2].toArray nN) ∈ led)
    (h0 : (a0, listOf v0.toArray n0) ∈ led) (h1 : (a1, listOf v1.toArray n1) ∈ led) (h2 : (a2, listOf v2.toArray n2) ∈ led) (hvs : IntsAre vs T.cells) (ok : TapeOk T) (nd : [aT, aC, aN, a0, a1, a2].Nodup)
    (hr : Rest [aT, aC, a0, a1, a2] led rest) (hl0 : v0.length + 2 * cntAt d ≤ 5000) (hl1 : v1.length + 2 * cntAt d ≤ 5000) (hl2 : v2.length + 2 * cntAt d ≤ 5000) (ht : T.t + 1 + 2 * drawsAt d < 80000) (hmk : mark.length = 1)
    (hA : A.handled = none) (hd : A.depth + 5 * d + 1 < 800) (hu : A.units + 20 * d + 3 < 4500) (hdp : dp = d)
    (h : ∀ h' tk' r vs0 vs1 vs2 fz imm vs' tk2 n n' n0' n1' n2', Fr g L h' m → AllTup imm → IntsAre vs' (bodyAt (madeF d) T v0.length).2.cells → TapeOk (bodyAt (madeF d) T v0.length).2 →
      News g L h' ((aT, listOf [.ref aC, .int (bodyAt (madeF d) T v0.length).2.t tk2].toArray n) :: (aC, listOf vs'.toArray n') :: (a0, listOf (v0 ++ vs0).toArray n0') :: (a1, listOf (v1 ++ vs1).toArray n1') :: (a2, listOf (v2 ++ vs2).toArray n2') :: (rest ++ (fz ++ imm))) →
      (∀ p ∈ fz, ∀ q ∈ led, q.1 < p.1) → (∀ p ∈ imm, ∀ q ∈ led, p.1 ≠ q.1) → (∀ p ∈ fz, L < p.1) → Dvs (Iv imm) vs0 (toDs mark (preL (bodyAt (madeF d) T v0.length).1)) → Dvs (Iv imm) vs1 (toDs mark (postL (bodyAt (madeF d) T v0.length).1)) → Prs (Iv imm) fz mark vs2 (postL (bodyAt (madeF d) T v0.length).1) →
      Dv (Iv imm) r (.tup (toDs mark (bodyAt (madeF d) T v0.length).1)) → (bodyAt (madeF d) T v0.length).2.t ≤ T.t + 1 + 2 * drawsAt d → vs0.length ≤ 2 * cntAt d → vs1.length ≤ 2 * cntAt d → vs2.length ≤ 2 * cntAt d → Q r { s with heap := h', toks := tk' }) :
    wpAny (model prog w) A (call (.ref 90) [.ref aT, .str mark mt, .int dp dt, .ref aN]) Q E s := by
  subst hdp
  refine wpAny_call (S B F.keep ⟨_, _, _, _, N.get hT, N.get hC, hvs⟩ ok (l := ⟨v0, v1, v2⟩) ⟨_, _, _, _, N.get hN, N.get h0, N.get h1, N.get h2⟩ ?_ nd hl0 hl1 hl2 ht hmk hA hd hu ?_)
  · exact List.forall_mem_cons.mpr ⟨N.fresh hT, List.forall_mem_cons.mpr ⟨N.fresh hC, List.forall_mem_cons.mpr ⟨N.fresh hN, List.forall_mem_cons.mpr ⟨N.fresh h0, List.forall_mem_cons.mpr ⟨N.fresh h1, List.forall_mem_cons.mpr ⟨N.fresh h2, List.forall_mem_nil _⟩⟩⟩⟩⟩⟩
  · intro h' tk' r vs0 vs1 vs2 fz x dv
    obtain ⟨imm, vs', tk2, n, n', n0', n1', n2', F', ct, hi, N', lo, lo2, lz, d0, d1, d2, tot⟩ := left_back F N ⟨_, hT, list_ne⟩ ⟨_, hC, list_ne⟩ ⟨_, h0, list_ne⟩ ⟨_, h1, list_ne⟩ ⟨_, h2, list_ne⟩ ⟨_, hN⟩ nd hr x
    exact h h' tk' r vs0 vs1 vs2 fz imm vs' tk2 n n' n0' n1' n2' F' ct hi (bodyAt_ok (madeF_mk d).ok ok) N' lo lo2 lz d0 d1 d2 (dv.mono tot) (bodyAt_t (draws_pos d) (madeF_mk d).t _ _) (by rw [d0.length, toDs_len]; exact bodyAt_cnt (madeF_mk d).cnt _ _) (by rw [d1.length, toDs_len, postL_len]; exact bodyAt_cnt (madeF_mk d).cnt _ _) (by rw [d2.length, postL_len]; exact bodyAt_cnt (madeF_mk d).cnt _ _)
end

section
open LCg
variable {prog : Program} {w : World} {A : Around} {h₀ : Heap} {L : Addr} {m : Str → Option Value} {env : Env} {elt : Expr} {x : Str} {scope : Scope} {cl : List (Str × Addr)} {s : Shared} {Sv : List (Addr × Obj) → Prop} {P : Nat → Value → Prop} {Fin : List Value → List (Addr × Obj) → Prop}
theorem CompEnd.mono {s₁ : Shared} {I C D : Addr} {oI oC oD : Obj} {rest rest' : Value → List (Addr × Obj) → Prop} {y : Value} {s₂ : Shared} (h : ∀ y n, rest y n → rest' y n) (c : LCg.CompEnd h₀ L m s₁ I oI C oC D oD Sv rest y s₂) : LCg.CompEnd h₀ L m s₁ I oI C oC D oD Sv rest' y s₂ :=
  Exists.imp (fun h' => Exists.imp fun tk => Exists.imp fun n => And.imp_right (And.imp_right (And.imp_right (And.imp_right (And.imp_right (h _ _)))))) c
/-- the turns of a comprehension by an invariant over what is left, the values so far and the ledger -/
theorem rest_ind (Inv : Nat → Nat → List Value → List (Addr × Obj) → Prop) (zero : ∀ i ys news, Inv 0 i ys news → Fin ys news)
    (succ : ∀ k i ys news, Inv (k + 1) i ys news → ∀ v I oI C oC D m₂ h tk (E' : Value → Shared → Prop), P i v → NsObj oC m₂ → m₂ x = some v → Fr h₀ L h m → News h₀ L h ((I, oI) :: (C, oC) :: (D, LCg.lst ys) :: news) → Off3 I C D news →
      ((@Ne Nat I C) ∧ (@Ne Nat I D) ∧ (@Ne Nat C D)) →
      wpAny (model prog w) A (eval elt (compEnvC scope cl C env)) (LCg.CompEnd h₀ L m { s with heap := h, toks := tk } I oI C oC D (LCg.lst ys) Sv (fun y news' => Inv k (i + 1) (ys ++ [y]) news')) E' { s with heap := h, toks := tk }) :
    ∀ k i ys news, Inv k i ys news → LCg.CompRest prog w A h₀ L m env elt x scope cl s Sv P Fin k i ys news
  | 0, i, ys, news, h => LCg.CompRest.zero (zero i ys news h)
  | k + 1, i, ys, news, h => LCg.CompRest.succ fun v I oI C oC D m₂ hh tk E' hP hC hx F N off ne =>
      wpAny_mono (succ k i ys news h v I oI C oC D m₂ hh tk E' hP hC hx F N off ne) (fun y s₂ c => CompEnd.mono (fun y n q => rest_ind Inv zero succ k (i + 1) (ys ++ [y]) n q) c) fun _ _ e => e
theorem off3_step {I C D : Addr} {news news' : List (Addr × Obj)} (off : LCg.Off3 I C D news) (h : ∀ p ∈ news', (∃ q ∈ news, q.1 = p.1) ∨ ((@Ne Nat p.1 I) ∧ (@Ne Nat p.1 C) ∧ (@Ne Nat p.1 D))) : LCg.Off3 I C D news' :=
  LCg.Off3.of fun p hp => (h p hp).elim (fun ⟨q, hq, e⟩ => e ▸ off.mem q hq) id
theorem rest_comp {I C D : Addr} {oI oC oD : Obj} {ks : List Nat} {news rest : List (Addr × Obj)} (off : LCg.Off3 I C D news) (hk : ∀ a ∈ ks, ∃ o, (a, o) ∈ news) (r : Rest ks news rest) : Rest ks ((I, oI) :: (C, oC) :: (D, oD) :: news) ((I, oI) :: (C, oC) :: (D, oD) :: rest) := by
  refine Rest.keep (fun a ha e => ?_) (Rest.keep (fun a ha e => ?_) (Rest.keep (fun a ha e => ?_) r)) <;> obtain ⟨o, ho⟩ := hk a ha
  · exact (off.mem _ ho).1 e.symm
  · exact (off.mem _ ho).2.1 e.symm
  · exact (off.mem _ ho).2.2 e.symm
theorem hk5 {I C D : Addr} {news : List (Addr × Obj)} {a b c d e : Nat} {oa ob oc od oe : Obj} (_ : LCg.Off3 I C D news) (ha : (a, oa) ∈ news) (hb : (b, ob) ∈ news) (hc : (c, oc) ∈ news) (hd : (d, od) ∈ news) (he : (e, oe) ∈ news) : ∀ x ∈ [a, b, c, d, e], ∃ o, (x, o) ∈ news :=
  List.forall_mem_cons.mpr ⟨⟨_, ha⟩, List.forall_mem_cons.mpr ⟨⟨_, hb⟩, List.forall_mem_cons.mpr ⟨⟨_, hc⟩, List.forall_mem_cons.mpr ⟨⟨_, hd⟩, List.forall_mem_cons.mpr ⟨⟨_, he⟩, List.forall_mem_nil _⟩⟩⟩⟩⟩
theorem all5 {P : Nat → Prop} {a b c d e : Nat} (h1 : P a) (h2 : P b) (h3 : P c) (h4 : P d) (h5 : P e) : ∀ x ∈ [a, b, c, d, e], P x :=
  List.forall_mem_cons.mpr ⟨h1, List.forall_mem_cons.mpr ⟨h2, List.forall_mem_cons.mpr ⟨h3, List.forall_mem_cons.mpr ⟨h4, List.forall_mem_cons.mpr ⟨h5, List.forall_mem_nil _⟩⟩⟩⟩⟩
theorem rest5 {a b c d e : Nat} {oa ob oc od oe : Obj} {l r : List (Addr × Obj)} (h : Rest [a, b, c, d, e] l r) : Rest [a, b, c, d, e] ((a, oa) :: (b, ob) :: (c, oc) :: (d, od) :: (e, oe) :: l) r :=
  Rest.skip (by simp) (Rest.skip (by simp) (Rest.skip (by simp) (Rest.skip (by simp) (Rest.skip (by simp) h))))
theorem news_std {g h : Heap} {L : Addr} {led : List (Addr × Obj)} {aT aC a0 a1 a2 aN b1 b2 b3 b4 : Nat} {oT oC o0 o1 o2 oN p1 p2 p3 p4 : Obj} (N : News g L h led) (hT : (aT, oT) ∈ led) (hC : (aC, oC) ∈ led) (h0 : (a0, o0) ∈ led) (h1 : (a1, o1) ∈ led) (h2 : (a2, o2) ∈ led) (hN : (aN, oN) ∈ led)
    (c1 : (b1, p1) ∈ led) (c2 : (b2, p2) ∈ led) (c3 : (b3, p3) ∈ led) (c4 : (b4, p4) ∈ led) : News g L h ((aT, oT) :: (aC, oC) :: (a0, o0) :: (a1, o1) :: (a2, o2) :: (aN, oN) :: (b1, p1) :: (b2, p2) :: (b3, p3) :: (b4, p4) :: ([] ++ [])) :=
  List.forall_mem_cons.mpr ⟨N _ hT, List.forall_mem_cons.mpr ⟨N _ hC, List.forall_mem_cons.mpr ⟨N _ h0, List.forall_mem_cons.mpr ⟨N _ h1, List.forall_mem_cons.mpr ⟨N _ h2, List.forall_mem_cons.mpr ⟨N _ hN, List.forall_mem_cons.mpr ⟨N _ c1, List.forall_mem_cons.mpr ⟨N _ c2, List.forall_mem_cons.mpr ⟨N _ c3, List.forall_mem_cons.mpr ⟨N _ c4, List.forall_mem_nil _⟩⟩⟩⟩⟩⟩⟩⟩⟩⟩
theorem sub_gen {A X M fz fz' imm imm' : List (Addr × Obj)} : ∀ p ∈ A ++ (X ++ (M ++ ((fz ++ fz') ++ (imm ++ imm')))), p ∈ X ++ (A ++ (M ++ (fz ++ (imm ++ (fz' ++ imm'))))) := by
  intro p hp
  simp only [List.mem_append] at hp ⊢
  rcases hp with h | h | h | (h | h) | h | h <;> simp only [h, true_or, or_true]
theorem sub_std {i c e x1 x2 x3 x4 x5 m1 m2 m3 m4 m5 : Addr × Obj} {fz fz' imm imm' : List (Addr × Obj)} : ∀ p ∈ i :: c :: e :: x1 :: x2 :: x3 :: x4 :: x5 :: m1 :: m2 :: m3 :: m4 :: m5 :: ((fz ++ fz') ++ (imm ++ imm')), p ∈ x1 :: x2 :: x3 :: x4 :: x5 :: i :: c :: e :: m1 :: m2 :: m3 :: m4 :: m5 :: (fz ++ (imm ++ (fz' ++ imm'))) := sub_gen (A := [i, c, e]) (X := [x1, x2, x3, x4, x5]) (M := [m1, m2, m3, m4, m5])
theorem off_gen {I C D' : Addr} {oI oC oD : Obj} {X Y M fz fz' imm imm' : List (Addr × Obj)} (off : LCg.Off3 I C D' (X ++ (M ++ (fz ++ imm))))
    (lo : ∀ p ∈ fz', ∀ q ∈ (I, oI) :: (C, oC) :: (D', oD) :: (X ++ (M ++ (fz ++ imm))), q.1 < p.1) (lo2 : ∀ p ∈ imm', ∀ q ∈ (I, oI) :: (C, oC) :: (D', oD) :: (X ++ (M ++ (fz ++ imm))), p.1 ≠ q.1) (e : X.map (·.1) = Y.map (·.1)) : LCg.Off3 I C D' (Y ++ (M ++ ((fz ++ fz') ++ (imm ++ imm')))) := by
  refine off3_step off fun p hp => ?_
  rcases List.mem_append.mp hp with h | hp
  · have q : p.1 ∈ X.map (·.1) := e ▸ List.mem_map_of_mem h
    obtain ⟨x, hx, ex⟩ := List.mem_map.mp q
    exact .inl ⟨x, List.mem_append_left _ hx, ex⟩
  rcases List.mem_append.mp hp with h | hp
  · exact .inl ⟨p, List.mem_append_right _ (List.mem_append_left _ h), rfl⟩
  rcases List.mem_append.mp hp with h | hp
  · rcases List.mem_append.mp h with h | h
    · exact .inl ⟨p, List.mem_append_right _ (List.mem_append_right _ (List.mem_append_left _ h)), rfl⟩
    · exact .inr ⟨Nat.ne_of_gt (lo p h (I, oI) (.head _)), Nat.ne_of_gt (lo p h (C, oC) (.tail _ (.head _))), Nat.ne_of_gt (lo p h (D', oD) (.tail _ (.tail _ (.head _))))⟩
  · rcases List.mem_append.mp hp with h | h
    · exact .inl ⟨p, List.mem_append_right _ (List.mem_append_right _ (List.mem_append_right _ h)), rfl⟩
    · exact .inr ⟨lo2 p h (I, oI) (.head _), lo2 p h (C, oC) (.tail _ (.head _)), lo2 p h (D', oD) (.tail _ (.tail _ (.head _)))⟩
theorem off_std {I C D' : Addr} {oI oC oD : Obj} {x1 x2 x3 x4 x5 y1 y2 y3 y4 y5 m1 m2 m3 m4 m5 : Addr × Obj} {fz fz' imm imm' : List (Addr × Obj)} (off : LCg.Off3 I C D' (x1 :: x2 :: x3 :: x4 :: x5 :: m1 :: m2 :: m3 :: m4 :: m5 :: (fz ++ imm)))
    (lo : ∀ p ∈ fz', ∀ q ∈ (I, oI) :: (C, oC) :: (D', oD) :: x1 :: x2 :: x3 :: x4 :: x5 :: m1 :: m2 :: m3 :: m4 :: m5 :: (fz ++ imm), q.1 < p.1) (lo2 : ∀ p ∈ imm', ∀ q ∈ (I, oI) :: (C, oC) :: (D', oD) :: x1 :: x2 :: x3 :: x4 :: x5 :: m1 :: m2 :: m3 :: m4 :: m5 :: (fz ++ imm), p.1 ≠ q.1)
    (e1 : x1.1 = y1.1) (e2 : x2.1 = y2.1) (e3 : x3.1 = y3.1) (e4 : x4.1 = y4.1) (e5 : x5.1 = y5.1) : LCg.Off3 I C D' (y1 :: y2 :: y3 :: y4 :: y5 :: m1 :: m2 :: m3 :: m4 :: m5 :: ((fz ++ fz') ++ (imm ++ imm'))) := off_gen (X := [x1, x2, x3, x4, x5]) (Y := [y1, y2, y3, y4, y5]) (M := [m1, m2, m3, m4, m5]) off lo lo2 (by simp only [List.map_cons, List.map_nil, e1, e2, e3, e4, e5])
theorem iv_l {i j : List (Addr × Obj)} : ∀ a vs n, Iv i a (tupOf vs n) → Iv (i ++ j) a (tupOf vs n) := fun _ _ _ q => List.mem_append_left _ q
theorem iv_r {i j : List (Addr × Obj)} : ∀ a vs n, Iv j a (tupOf vs n) → Iv (i ++ j) a (tupOf vs n) := fun _ _ _ q => List.mem_append_right _ q
theorem hl6 {g h : Heap} {L : Addr} {led : List (Addr × Obj)} {a b c d e f : Nat} {ia ib ic id ie jf : Array Value} {na nb nc nd ne nf : Nat} (_ : News g L h led) (ha : (a, listOf ia na) ∈ led) (hb : (b, listOf ib nb) ∈ led) (hc : (c, listOf ic nc) ∈ led) (hd : (d, listOf id nd) ∈ led) (he : (e, listOf ie ne) ∈ led) (hf : (f, listOf jf nf) ∈ led) :
    ∀ x ∈ [a, b, c, d, e, f], ∃ o, (x, o) ∈ led ∧ o.cls ≠ .type "tuple" := all6.mpr ⟨⟨_, ha, list_ne⟩, ⟨_, hb, list_ne⟩, ⟨_, hc, list_ne⟩, ⟨_, hd, list_ne⟩, ⟨_, he, list_ne⟩, ⟨_, hf, list_ne⟩⟩
/-- Kp at a def's end, from the frame -/
theorem kp_end {g h h' : Heap} {m : Str → Option Value} {L aT aC aN a0 a1 a2 : Nat} {oT oC oN o0 o1 o2 : Obj} (hg1 : ∀ b o, h.get? b = some o → b ∉ ([(aT, oT), (aC, oC), (aN, oN), (a0, o0), (a1, o1), (a2, o2)] : List (Addr × Obj)).map (·.1) → g.get? b = some o) (F : Fr g L h' m) (hL : h.objs.size ≤ L)
    (eN : h.get? aN = some oN) (eN' : h'.get? aN = some oN) : Kp [aT, aC, a0, a1, a2] h h' := by
  refine ⟨fun b o e nb => ?_, Nat.le_trans hL (Nat.le_of_lt F.ns.lt)⟩
  by_cases hb : b = aN
  · rw [hb] at e ⊢; rw [eN] at e; rw [eN', e]
  · refine F.keep _ _ (hg1 b o e ?_)
    intro q
    simp only [List.map_cons, List.map_nil, List.mem_cons, List.not_mem_nil, or_false] at q nb
    simp only [not_or] at nb
    rcases q with q | q | q | q | q | q
    · exact nb.1 q
    · exact nb.2.1 q
    · exact hb q
    · exact nb.2.2.1 q
    · exact nb.2.2.2.1 q
    · exact nb.2.2.2.2 q
end
section
variable {prog : Program} {w : World} {A : Around} {E : Value → Shared → Prop} {s : Shared} {g : Heap} {L D' : Nat} {m : Str → Option Value} {led led' : List (Addr × Obj)} {vs rs : List Value} {n : Nat}
theorem set_mid {v x : Value} {k : Int} {t : Tok} {Q : Unit → Shared → Prop} (F : Fr g L s.heap m) (N : News g L s.heap led) (U : Upd D' (listOf (vs ++ x :: rs).toArray n) (listOf (vs ++ v :: rs).toArray n) led led') (hk : k = vs.length) (hfit : vs.length ≤ 100000)
    (h : ∀ h', Fr g L h' m → News g L h' led' → Q () { s with heap := h' }) : wpAny (model prog w) A (setItem (.ref D') (.int k t) v) Q E s :=
  set_l F N U (by rw [hk]; simp) (by lia) (by lia) (by rw [List.length_append, List.length_cons]; lia) h
theorem newList_L {vs : List Value} {Q : Value → Shared → Prop} (F : Fr g L s.heap m) (N : News g L s.heap led)
    (h : ∀ l h', Fr g L h' m → News g L h' ((l, listOf vs.toArray 0) :: led) → (∀ p ∈ led, p.1 < l) → L < l → Q (.ref l) { s with heap := h' }) (hsz : vs.length ≤ 1000) : wpAny (model prog w) A (newList vs) Q E s :=
  newList_N F N (fun h' F' N' => h _ h' F' N' (fun p hp => Heap.lt_size (N p hp).1) F.ns.lt) (by have : sizeLine = 2 ^ 24 := rfl; lia)
end
section
variable {prog : Program} {w : World} {A : Around} {E : Value → Shared → Prop} {s : Shared} {g : Heap} {L aT aC aR : Nat} {m : Str → Option Value} {led rest : List (Addr × Obj)} {vs rvs : List Value} {n n2 nR tk mt : Nat} {T : Tape} {mark : Str}
theorem call_ref3 {Q : Value → Shared → Prop} (S : RefSpec prog w 3) (B : Base w g) (F : Fr g L s.heap m) (N : News g L s.heap led) (hT : (aT, listOf [.ref aC, .int T.t tk].toArray n) ∈ led) (hC : (aC, listOf vs.toArray n2) ∈ led) (hR : (aR, listOf rvs.toArray nR) ∈ led) (hvs : IntsAre vs T.cells) (ok : TapeOk T)
    (hr : Rest [aT, aC, aR] led rest) (hrl : rvs.length ≤ 1000) (hA : A.handled = none) (hd : A.depth + 3 < 880) (hu : A.units + 9 < 4900) (hTC : aT ≠ aC) (hTR : aT ≠ aR) (hCR : aC ≠ aR) (ht2 : T.t + 30 < 90000) (hmk : mark.length = 1)
    (h : ∀ h' tk' tk2 n' n2' vs' imm r nvs nR', Fr g L h' m → AllTup imm → (∀ p ∈ imm, ∀ q ∈ led, p.1 ≠ q.1) →
      News g L h' ((aT, listOf [.ref aC, .int (refF 3 T).2.t tk2].toArray n') :: (aC, listOf vs'.toArray n2') :: (aR, listOf (rvs ++ r :: nvs).toArray nR') :: (rest ++ imm)) → IntsAre vs' (refF 3 T).2.cells → TapeOk (refF 3 T).2 →
      Dvs (Iv imm) (r :: nvs) ((refF 3 T).1.flat.map (Rf.toD mark)) → nvs.length ≤ 3 → (refF 3 T).2.t ≤ T.t + 8 → Q r { s with heap := h', toks := tk' }) :
    wpAny (model prog w) A (call (.ref 85) [.ref aT, .str mark mt, .ref aR]) Q E s :=
  call_ref (dt := 0) (deep := 0) S B F N hT hC hR hvs ok hr hrl hA hd (by lia) hTC hTR hCR (by lia) hmk (by decide) (.inr ⟨rfl, rfl⟩)
    fun h' tk' tk2 n' n2' vs' imm r nvs nR' F' ct lo N' hi ok' dv hn => h h' tk' tk2 n' n2' vs' imm r nvs nR' F' ct lo N' hi ok' dv hn (ref3_t T)
end
section
variable {prog : Program} {w : World} {A : Around} {E : Value → Shared → Prop} {s : Shared} {g : Heap} {L D' : Nat} {m : Str → Option Value} {led led' : List (Addr × Obj)} {xs : List Value} {n : Nat} {x : Value}
theorem append_l {Q : Value → Shared → Prop} (F : Fr g L s.heap m) (N : News g L s.heap led) (U : Upd D' (listOf xs.toArray n) (listOf (xs ++ [x]).toArray (n + 1)) led led') (hz : xs.length ≤ 100000)
    (h : ∀ h', Fr g L h' m → News g L h' led' → Q .none { s with heap := h' }) : wpAny (model prog w) A (call (.builtin "list.append") [.ref D', x]) Q E s := by
  have e : (xs ++ [x]).toArray = xs.toArray.push x := by simp
  rw [e] at U
  exact append_K F N U h (by have : sizeLine = 2 ^ 24 := rfl; rw [List.size_toArray]; lia)
end
section
variable {prog : Program} {w : World} {A : Around} {E : Value → Shared → Prop} {s : Shared} {g : Heap} {L D' a b : Nat} {m : Str → Option Value} {led : List (Addr × Obj)} {xs ys : List Value} {n na nb u : Nat} {x0 x1 x2 : Value} {k : Int}
theorem pick3 {value slice : Expr} {Q : Value → Shared → Prop} (N : News g L s.heap led) (hm : (D', listOf #[x0, x1, x2] n) ∈ led) (h0 : 0 ≤ k) (h3 : k < 3) (q0 : k = 0 → Q x0 s) (q1 : k = 1 → Q x1 s) (q2 : k = 2 → Q x2 s)
    (hs : ∀ k u, subscripted slice false (.ref D') (.int k u) = operate [.ref D', .int k u] (getItem (.ref D') (.int k u)) := by intro k u; with_unfolding_all rfl) :
    wpAny (model prog w) A (subscriptTail value slice (.ref D') (.int k u)) Q E s := by
  have q : k = 0 ∨ k = 1 ∨ k = 2 := by lia
  rcases q with rfl | rfl | rfl
  · exact tail_any (isl N hm).typeIs slot_list_getitem.lookup (wpAny_getItem_list (isl N hm) (by decide) (by decide) rfl (q0 rfl)) (hs _ _)
  · exact tail_any (isl N hm).typeIs slot_list_getitem.lookup (wpAny_getItem_list (isl N hm) (by decide) (by decide) rfl (q1 rfl)) (hs _ _)
  · exact tail_any (isl N hm).typeIs slot_list_getitem.lookup (wpAny_getItem_list (isl N hm) (by decide) (by decide) rfl (q2 rfl)) (hs _ _)
theorem addL {Q : Value → Shared → Prop} (F : Fr g L s.heap m) (N : News g L s.heap led) (ha : (a, listOf xs.toArray na) ∈ led) (hb : (b, listOf ys.toArray nb) ∈ led) (hz : xs.length + ys.length ≤ 10000)
    (h : ∀ l h', Fr g L h' m → News g L h' ((l, listOf (xs ++ ys).toArray 0) :: led) → (∀ p ∈ led, p.1 < l) → L < l → Q (.ref l) { s with heap := h' }) : wpAny (model prog w) A (binaryOp .Add (.ref a) (.ref b)) Q E s := by
  have hL : L < s.heap.objs.size := F.ns.lt
  refine P.add_list (N.get ha) (N.get hb) ?_ (by have : sizeLine = 2 ^ 24 := rfl; rw [List.size_toArray, List.size_toArray]; lia)
  rw [List.append_toArray]
  exact h _ _ (F.push _) (News.push F N _) (fun p hp => Heap.lt_size (N p hp).1) hL
end
theorem made_fin {R : Result → Shared → Prop} {s : Shared} {h h' g : Heap} {aT aC aN a0 a1 a2 L : Nat} {T' : Tape} {v0 v1 v2 vs0 vs1 vs2 w1 w2 rs vs : List Value} {st : St} {l k : List St} {mark : Str} {oT oC oN o0 o1 o2 : Obj} {m : Str → Option Value} {led fz : List (Addr × Obj)} {tk tk9 n nc nN n0 n1 n2 nR np D' Dp l' : Nat}
    (hp : st.pre = st :: l) (hq : st.post = k ++ [st]) (hL : h.objs.size = L) (hNN : oN = listOf [.ref a0, .ref a1, .ref a2].toArray nN)
    (hret : ∀ h' tk' r vs0 vs1 vs2 fz, Left h h' aT aC aN a0 a1 a2 T' ⟨v0, v1, v2⟩ mark (r :: vs0) vs1 vs2 st.pre st.post fz → R (.ok (.ret r)) { s with heap := h', toks := tk' })
    (hg1 : ∀ b o, h.get? b = some o → b ∉ ([(aT, oT), (aC, oC), (aN, oN), (a0, o0), (a1, o1), (a2, o2)] : List (Addr × Obj)).map (·.1) → g.get? b = some o) (F : Fr g L h' m) (N : News g L h' led) (hN : h.get? aN = some oN)
    (mT : (aT, listOf [.ref aC, .int T'.t tk].toArray n) ∈ led) (mC : (aC, listOf vs.toArray nc) ∈ led) (hi : IntsAre vs T'.cells) (mN : (aN, listOf [.ref a0, .ref a1, .ref a2].toArray nN) ∈ led) (m0 : (a0, listOf (v0 ++ .ref D' :: vs0).toArray n0) ∈ led) (m1 : (a1, listOf (v1 ++ w1).toArray n1) ∈ led) (m2 : (a2, listOf (v2 ++ w2).toArray n2) ∈ led)
    (e1 : w1 = vs1 ++ [.ref D']) (e2 : w2 = vs2 ++ [.ref Dp]) (ml : (l', listOf rs.toArray nR) ∈ led) (hl' : L < l') (mp : (Dp, tupOf [.ref D', .ref l'] np) ∈ led) (hf : ∀ p ∈ fz, p ∈ led) (hz : ∀ p ∈ fz, L < p.1)
    (dv : Dv (Nv h h') (.ref D') (st.toD mark)) (dr : Dvs (Nv h h') rs (st.refs.map (Rf.toD mark))) (d0 : Dvs (Nv h h') vs0 (toDs mark l)) (d1 : Dvs (Nv h h') vs1 (toDs mark k)) (d2 : Prs (Nv h h') fz mark vs2 k) :
    R (.ok (.ret (.ref D'))) { s with heap := h', toks := tk9 } := by
  subst hL hNN e1 e2
  have hl := hl6 (a := aT) (b := aC) (c := aN) (d := a0) (e := a1) (f := a2) N mT mC mN m0 m1 m2
  refine hret _ _ _ vs0 (vs1 ++ [.ref D']) (vs2 ++ [.ref Dp]) ((l', listOf rs.toArray nR) :: fz) ⟨kp_end hg1 F (Nat.le_refl _) hN (N.get mN), ⟨_, _, _, _, N.get mT, N.get mC, hi⟩, ⟨_, _, _, _, N.get mN, N.get m0, N.get m1, N.get m2⟩, ?_, ?_, ?_, ?_⟩
  · rw [hp, toDs.eq_2]; exact .cons dv d0
  · rw [hq, toDs_append, toDs_one]; exact d1.append (.one dv)
  · rw [hq]
    exact (d2.mono (fun _ _ _ q => q) fun p hp => List.mem_cons_of_mem _ hp).append (.cons ⟨N.get mp, new_tup hg1 N mp hl⟩ dv (.head _) dr .nil)
  · refine List.forall_mem_cons.mpr ⟨⟨N.get ml, Nat.le_of_lt hl'⟩, fun p hp => ⟨(N p (hf p hp)).1, Nat.le_of_lt (hz p hp)⟩⟩
/-- what is told of a state: the objects that stand, but those that change, and a list's entries -/
noncomputable abbrev Vv (V : Addr → Obj → Prop) (Ms : List Nat) (imm : List (Addr × Obj)) : Addr → Obj → Prop := fun a o => (V a o ∧ a ∉ Ms) ∨ (a, o) ∈ imm
/-- what is told behind a call -/
noncomputable abbrev Aft (V : Addr → Obj → Prop) (Ms : List Nat) (h h' : Heap) : Addr → Obj → Prop := fun a o => h'.get? a = some o ∧ (a ∈ Ms ∨ V a o ∨ h.get? a = none)
noncomputable abbrev Sub (V V' : Addr → Obj → Prop) : Prop := ∀ a o, V a o → V' a o
noncomputable abbrev Cov (Ms : List Nat) (mo : List (Addr × Obj)) : Prop := ∀ a ∈ Ms, ∃ o, (a, o) ∈ mo
theorem Dv.sub {V V' : Addr → Obj → Prop} {v : Value} {d : D} (x : Dv V v d) (h : Sub V V') : Dv V' v d := x.mono fun _ _ _ => h _ _
theorem Dvs.sub {V V' : Addr → Obj → Prop} {v : List Value} {d : List D} (x : Dvs V v d) (h : Sub V V') : Dvs V' v d := x.mono fun _ _ _ => h _ _
inductive RestV (Ms : List Nat) : List (Addr × Obj) → List (Addr × Obj) → Prop
  | nil : RestV Ms [] []
  | skip {p : Addr × Obj} {l r : List (Addr × Obj)} : p.1 ∈ Ms → RestV Ms l r → RestV Ms (p :: l) r
  | skips {mo l r : List (Addr × Obj)} : (∀ p ∈ mo, p.1 ∈ Ms) → RestV Ms l r → RestV Ms (mo ++ l) r
  | skipsEnd {mo : List (Addr × Obj)} : (∀ p ∈ mo, p.1 ∈ Ms) → RestV Ms mo []
  | keep {p : Addr × Obj} {l r : List (Addr × Obj)} : p.1 ∉ Ms → RestV Ms l r → RestV Ms (p :: l) (p :: r)
  | keeps {i l r : List (Addr × Obj)} : (∀ p ∈ i, p.1 ∉ Ms) → RestV Ms l r → RestV Ms (i ++ l) (i ++ r)
  | keepsEnd {i : List (Addr × Obj)} : (∀ p ∈ i, p.1 ∉ Ms) → RestV Ms i i
theorem RestV.mem {Ms : List Nat} {led : List (Addr × Obj)} : ∀ {l r : List (Addr × Obj)}, RestV Ms l r → (∀ p ∈ l, p ∈ led) → ∀ p ∈ r, p ∈ led ∧ p.1 ∉ Ms := by
  intro l r h
  induction h with
  | nil => intro _ p h; exact nomatch h
  | skip _ _ ih => intro hs p h; exact ih (fun q hq => hs q (.tail _ hq)) p h
  | skips _ _ ih => intro hs p h; exact ih (fun q hq => hs q (List.mem_append_right _ hq)) p h
  | skipsEnd => intro _ p h; exact nomatch h
  | keep n _ ih =>
    intro hs p h
    rcases List.mem_cons.mp h with rfl | h
    · exact ⟨hs _ (.head _), n⟩
    · exact ih (fun q hq => hs q (.tail _ hq)) p h
  | keeps n _ ih =>
    intro hs p h
    rcases List.mem_append.mp h with h | h
    · exact ⟨hs p (List.mem_append_left _ h), n p h⟩
    · exact ih (fun q hq => hs q (List.mem_append_right _ hq)) p h
  | keepsEnd n => intro hs p h; exact ⟨hs p h, n p h⟩
noncomputable def newsOf (h h' : Heap) : List (Addr × Obj) := (List.range h'.objs.size).filterMap fun a => if h.get? a = none then (h'.get? a).map fun o => (a, o) else none
noncomputable def nowOf (Ms : List Nat) (h' : Heap) : List (Addr × Obj) := Ms.filterMap fun a => (h'.get? a).map fun o => (a, o)
theorem mem_newsOf {h h' : Heap} {a : Addr} {o : Obj} : (a, o) ∈ newsOf h h' ↔ h'.get? a = some o ∧ h.get? a = none := by
  unfold newsOf
  rw [List.mem_filterMap]
  constructor
  · rintro ⟨b, _, e⟩
    split at e
    · (repeat (first | clear qk | clear ek))
      rename_i q
      cases q2 : h'.get? b with
      | none => rw [q2] at e; cases e
      | some x => rw [q2] at e; cases e; exact ⟨q2, q⟩
    · cases e
  · rintro ⟨e1, e2⟩
    exact ⟨a, List.mem_range.mpr (Heap.lt_size e1), by rw [if_pos e2, e1]; rfl⟩
theorem mem_nowOf {Ms : List Nat} {h' : Heap} {a : Addr} {o : Obj} : (a, o) ∈ nowOf Ms h' ↔ a ∈ Ms ∧ h'.get? a = some o := by
  unfold nowOf
  rw [List.mem_filterMap]
  constructor
  · rintro ⟨b, hb, e⟩
    cases q2 : h'.get? b with
    | none => rw [q2] at e; cases e
    | some x => rw [q2] at e; cases e; exact ⟨hb, q2⟩
  · rintro ⟨e1, e2⟩
    exact ⟨a, e1, by rw [e2]; rfl⟩
section
variable {g h h' : Heap} {L : Addr} {m : Str → Option Value} {led mo im rest : List (Addr × Obj)} {Ms : List Nat} {V : Addr → Obj → Prop}
/-- the caller's frame behind a call that changed Ms alone: mo' the changed ones, nw all that is new -/
theorem back3 (F : Fr g L h m) (N : News g L h led) (k : Kp Ms h h') (hM : ∀ a ∈ Ms, ∃ o, (a, o) ∈ led) (hr : RestV Ms led rest) (hmo : ∀ p ∈ mo, p.1 ∈ Ms) (him : ∀ p ∈ im, p ∈ rest) :
    ∃ mo' nw, Fr g L h' m ∧ News g L h' (mo' ++ (rest ++ nw)) ∧ (∀ p ∈ mo', p.1 ∈ Ms) ∧ (∀ p ∈ nw, ∀ q ∈ led, p.1 ≠ q.1) ∧ (∀ p ∈ nw, p.1 ∉ Ms) ∧ (∀ p ∈ nw, h.get? p.1 = none) ∧
      Sub (Aft (Vv V Ms (mo ++ im)) Ms h h') (Vv V Ms (mo' ++ (im ++ nw))) := by
  have hMg : ∀ a ∈ Ms, a ≠ L ∧ g.get? a = none := fun a ha => by
    obtain ⟨o, hp⟩ := hM a ha
    exact ⟨(N _ hp).2.1, (N _ hp).2.2⟩
  have hF : Fr g L h' m := by
    obtain ⟨o, es, ep, ho, r⟩ := F.ns
    exact ⟨⟨o, es, ep, k.keep _ _ ho fun q => (hMg _ q).1 rfl, r⟩, fun b o e => k.keep _ _ (F.keep _ _ e) (fun q => by rw [(hMg _ q).2] at e; cases e), F.above⟩
  have hnw : ∀ p ∈ newsOf h h', h'.get? p.1 = some p.2 ∧ h.get? p.1 = none := fun p hp => mem_newsOf.mp hp
  have hmn : ∀ p ∈ nowOf Ms h', p.1 ∈ Ms ∧ h'.get? p.1 = some p.2 := fun p hp => mem_nowOf.mp hp
  refine ⟨nowOf Ms h', newsOf h h', hF, fun p hp => ?_, fun p hp => (hmn p hp).1, fun p hp q hq e => ?_, fun p hp q => ?_, fun p hp => (hnw p hp).2, fun a o x => ?_⟩
  · rcases List.mem_append.mp hp with hp | hp
    · have := hmn p hp
      exact ⟨this.2, hMg _ this.1⟩
    · rcases List.mem_append.mp hp with hp | hp
      · have := hr.mem (fun _ h => h) p hp
        exact ⟨k.keep _ _ (N p this.1).1 this.2, (N p this.1).2⟩
      · have := hnw p hp
        refine ⟨this.1, fun e => ?_, ?_⟩
        · obtain ⟨o, _, _, ho, _⟩ := F.ns
          rw [e, ho] at this; cases this.2
        · cases q : g.get? p.1 with
          | none => rfl
          | some o => have z := F.keep _ _ q; rw [this.2] at z; cases z
  · have := (hnw p hp).2
    rw [e, (N q hq).1] at this; cases this
  · obtain ⟨o, ho⟩ := hM _ q
    have := (hnw p hp).2
    rw [(N _ ho).1] at this; cases this
  · obtain ⟨x1, x⟩ := x
    by_cases hma : a ∈ Ms
    · exact .inr (List.mem_append_left _ (mem_nowOf.mpr ⟨hma, x1⟩))
    · rcases x with x | x | x
      · exact absurd x hma
      · rcases x with x | x
        · exact .inl x
        · rcases List.mem_append.mp x with x | x
          · exact absurd (hmo _ x) hma
          · exact .inr (List.mem_append_right _ (List.mem_append_left _ x))
      · exact .inr (List.mem_append_right _ (List.mem_append_right _ (mem_newsOf.mpr ⟨x1, x⟩)))
theorem vv_hv {h₀ : Heap} {imm led₀ : List (Addr × Obj)} (hg1 : ∀ b o, h₀.get? b = some o → b ∉ led₀.map (·.1) → g.get? b = some o) (F : Fr g L h m) (N : News g L h led) (hV : Sub V (Hv h₀)) (hl : ∀ a ∈ led₀.map (·.1), a ∈ Ms) (hi : ∀ p ∈ imm, p ∈ led) : Sub (Vv V Ms imm) (Hv h) := by
  rintro a o (⟨x, n⟩ | x)
  · exact F.keep _ _ (hg1 _ _ (hV _ _ x) fun q => n (hl _ q))
  · exact N.get (hi _ x)
theorem vv_g {h₀ : Heap} {led₀ : List (Addr × Obj)} (hg1 : ∀ b o, h₀.get? b = some o → b ∉ led₀.map (·.1) → g.get? b = some o) (hV : Sub V (Hv h₀)) (hl : ∀ a ∈ led₀.map (·.1), a ∈ Ms) {a : Addr} {o : Obj} (x : V a o) (n : a ∉ Ms) : g.get? a = some o :=
  hg1 _ _ (hV _ _ x) fun q => n (hl _ q)
theorem aft_end {h₀ : Heap} {imm led₀ : List (Addr × Obj)} (hg1 : ∀ b o, h₀.get? b = some o → b ∉ led₀.map (·.1) → g.get? b = some o) (F : Fr g L h m) (N : News g L h led) (hV : Sub V (Hv h₀)) (hl : ∀ a ∈ led₀.map (·.1), a ∈ Ms) (hi : ∀ p ∈ imm, p ∈ led) : Sub (Vv V Ms imm) (Aft V Ms h₀ h) := by
  rintro a o (⟨x, n⟩ | x)
  · exact ⟨F.keep _ _ (hg1 _ _ (hV _ _ x) fun q => n (hl _ q)), .inr (.inl x)⟩
  · refine ⟨N.get (hi _ x), ?_⟩
    by_cases q : a ∈ Ms
    · exact .inl q
    · refine .inr (.inr ?_)
      cases e : h₀.get? a with
      | none => rfl
      | some o' => have := hg1 _ _ e fun z => q (hl _ z); rw [(N _ (hi _ x)).2.2] at this; cases this
theorem vv_start {mo : List (Addr × Obj)} {h₀ : Heap} (hV : Sub V (Hv h₀)) (hmo : Cov Ms mo) (ho : ∀ p ∈ mo, h₀.get? p.1 = some p.2) : Sub V (Vv V Ms mo) := fun a o x => by
  by_cases q : a ∈ Ms
  · obtain ⟨o', ho'⟩ := hmo a q
    have e := ho _ ho'
    rw [hV _ _ x] at e
    cases e
    exact .inr ho'
  · exact .inl ⟨x, q⟩
theorem vv_sub {i j : List (Addr × Obj)} (h : ∀ p ∈ i, p ∈ j) : Sub (Vv V Ms i) (Vv V Ms j) := fun a o x => x.imp (fun q => q) (fun q => h _ q)
theorem kp_fin {h₀ : Heap} {led₀ : List (Addr × Obj)} (hg1 : ∀ b o, h₀.get? b = some o → b ∉ led₀.map (·.1) → g.get? b = some o) (F : Fr g L h m) (hl : ∀ a ∈ led₀.map (·.1), a ∈ Ms) (hL : h₀.objs.size ≤ L) : Kp Ms h₀ h :=
  ⟨fun b o e nb => F.keep _ _ (hg1 b o e fun q => nb (hl _ q)), Nat.le_trans hL (Nat.le_of_lt F.ns.lt)⟩
/-- the entries of the mutable objects at a def's entry -/
theorem now_led {G h₀ : Heap} (hMs : ∀ a ∈ Ms, G.get? a = none ∧ ∃ o, h₀.get? a = some o) : (∀ p ∈ nowOf Ms h₀, h₀.get? p.1 = some p.2 ∧ G.get? p.1 = none) ∧ Cov Ms (nowOf Ms h₀) ∧ (∀ p ∈ nowOf Ms h₀, p.1 ∈ Ms) ∧ (∀ a ∈ (nowOf Ms h₀).map (·.1), a ∈ Ms) := by
  have hm : ∀ p ∈ nowOf Ms h₀, p.1 ∈ Ms ∧ h₀.get? p.1 = some p.2 := fun p hp => mem_nowOf.mp hp
  refine ⟨fun p hp => ⟨(hm p hp).2, (hMs _ (hm p hp).1).1⟩, fun a ha => ?_, fun p hp => (hm p hp).1, fun a ha => ?_⟩
  · obtain ⟨o, e⟩ := (hMs a ha).2
    exact ⟨o, mem_nowOf.mpr ⟨ha, e⟩⟩
  · obtain ⟨p, hp, rfl⟩ := List.mem_map.mp ha
    exact (hm p hp).1
end
open LCg
noncomputable def PairSrc (prog : Program) (w : World) (A : Around) (h₀ : Heap) (L : Nat) (m : Str → Option Value) (env : Env) (elt : Expr) (x y : Str) (scope : Scope) (cl : List (Str × Addr)) (Q : Value → Shared → Prop) (xv : Value) (s₁ : Shared) : Prop :=
  ∃ (its : Array Value) (Inv : Nat → List Value → List (Addr × Obj) → Prop) (ax : Addr) (news : List (Addr × Obj)), xv = Value.ref ax ∧ Fr h₀ L s₁.heap m ∧ News h₀ L s₁.heap news ∧ h₀.IsTuple ax its ∧ its.size ≤ sizeLine ∧ Inv 0 [] news ∧
      (∀ (i : Nat) v, its[i]? = some v → ∃ t v₁ v₂, v = Value.ref t ∧ h₀.IsTuple t #[v₁, v₂]) ∧
      (∀ s₂ : Shared, (∃ h, s₂ = { s₁ with heap := h }) → (∀ ys news, Inv its.size ys news → FinE h₀ L m s₂ Q ys news) ∧
        ∀ (i : Nat) ys news, Inv i ys news → ∀ t v₁ v₂ I oI C oC D m₂ h tk (E' : Value → Shared → Prop), its[i]? = some (.ref t) → h₀.IsTuple t #[v₁, v₂] → NsObj oC m₂ → m₂ x = some v₁ → m₂ y = some v₂ → Fr h₀ L h m → News h₀ L h ((I, oI) :: (C, oC) :: (D, lst ys) :: news) → Off3 I C D news →
          ((@Ne Nat I C) ∧ (@Ne Nat I D) ∧ (@Ne Nat C D)) →
          wpAny (model prog w) A (eval elt (compEnvC scope cl C env)) (CompEnd h₀ L m { s₂ with heap := h, toks := tk } I oI C oC D (lst ys) (fun _ => True) (fun z news' => Inv (i + 1) (ys ++ [z]) news')) E' { s₂ with heap := h, toks := tk })
noncomputable def TupSrc (prog : Program) (w : World) (A : Around) (h₀ : Heap) (L : Nat) (m : Str → Option Value) (env : Env) (elt : Expr) (x : Str) (scope : Scope) (cl : List (Str × Addr)) (Q : Value → Shared → Prop) (xv : Value) (s₁ : Shared) : Prop :=
  ∃ (its : Array Value) (Inv : Nat → Nat → List Value → List (Addr × Obj) → Prop) (ax : Addr) (news : List (Addr × Obj)), xv = Value.ref ax ∧ Fr h₀ L s₁.heap m ∧ News h₀ L s₁.heap news ∧ h₀.IsTuple ax its ∧ its.size ≤ sizeLine ∧ Inv its.size 0 [] news ∧
      (∀ s₂ : Shared, (∃ h, s₂ = { s₁ with heap := h }) → (∀ i ys news, Inv 0 i ys news → FinE h₀ L m s₂ Q ys news) ∧
        ∀ k i ys news, Inv (k + 1) i ys news → ∀ v I oI C oC D m₂ h tk (E' : Value → Shared → Prop), its[i]? = some v → NsObj oC m₂ → m₂ x = some v → Fr h₀ L h m → News h₀ L h ((I, oI) :: (C, oC) :: (D, lst ys) :: news) → Off3 I C D news →
          ((@Ne Nat I C) ∧ (@Ne Nat I D) ∧ (@Ne Nat C D)) →
          wpAny (model prog w) A (eval elt (compEnvC scope cl C env)) (CompEnd h₀ L m { s₂ with heap := h, toks := tk } I oI C oC D (lst ys) (fun _ => True) (fun y news' => Inv k (i + 1) (ys ++ [y]) news')) E' { s₂ with heap := h, toks := tk })
section
variable {prog : Program} {w : World} {A : Around} {E : Value → Shared → Prop} {s : Shared} {h₀ : Heap} {L : Nat} {m : Str → Option Value} {env : Env}
/-- no tuple is lent out by a tuple's iterator -/
theorem go_tupiter {elts : List Expr} {x1} {pos : Pos} {I l T : Addr} {i : Nat} {Q : Unit → Shared → Prop} (hit : s.heap.IsTupleIter I l i) (hQ : Q () s) : wpAny (model prog w) A (letOwnedTupleGo (.Tuple elts x1 pos) (.ref I) (.ref T)) Q E s := by
  obtain ⟨o, ho, hc, hd⟩ := hit
  unfold letOwnedTupleGo
  refine wpAny_bind (wpAny_load ho ?_)
  rw [hc, hd]
  show wpAny _ A (if (["enumerate", "zip", "dict_itemiterator", "dict_reverseitemiterator", "odict_iterator", "itertools.zip_longest", "itertools.pairwise"].contains "tuple_iterator" && _) = true then _ else _) Q E s
  rw [if_neg (by rw [show (["enumerate", "zip", "dict_itemiterator", "dict_reverseitemiterator", "odict_iterator", "itertools.zip_longest", "itertools.pairwise"].contains "tuple_iterator") = false from by decide, Bool.false_and]; exact Bool.false_ne_true)]
  exact wpAny_pure hQ
theorem st_tup {ax I : Addr} {its : Array Value} (hl : h₀.IsTuple ax its) : ∀ i (h h' : Heap) (o : Obj) (nw : List (Addr × Obj)), (h.IsTupleIter I ax i ∧ h.IsTuple ax its) → h.get? I = some o → h'.get? I = some o → (∀ b o, h₀.get? b = some o → h'.get? b = some o) → News h₀ L h' nw → True → (h'.IsTupleIter I ax i ∧ h'.IsTuple ax its) :=
  fun i h h' o nw st e e' k _ _ => ⟨by obtain ⟨o', q, r⟩ := st.1; rw [e] at q; cases q; exact ⟨o, e', r⟩, let ⟨o, q, r⟩ := hl; ⟨o, k _ _ q, r⟩⟩
/-- a list comprehension over a tuple of the base, by an invariant -/
theorem comp_tup {elt iter : Expr} {x : Str} {px : Pos} {scope : Scope} {cl : List (Str × Addr)} {pos : Pos} {Q : Value → Shared → Prop}
    (F₀ : Fr h₀ L s.heap m) (hclos : closureFor scope env = pure cl) (hcell : ∀ y ∈ scope.names, y.2 ≠ .cell) (hkind : scope.kind = .function)
    (hnames : ∀ y ∈ scope.names, y.2 = .local → scope.names.lookup y.1 = some .local) (hx : scope.names.lookup x = some .local) (hh : A.handled = none)
    (h : wpAny (model prog w) A (eval iter env) (TupSrc prog w A h₀ L m env elt x scope cl Q) E s)
    (hs : ∀ x, foldedSetIterable iter env x = pure x := by intro _; rfl) :
    wpAny (model prog w) A (eval (.ListComp elt [⟨.Name x px, iter, [], 0⟩] scope pos) env) Q E s := by
  rw [eval_ListComp]
  refine wpAny_comprehension_free (use := none) rfl hs hclos hkind hnames (wpAny_mono h (fun xv s₁ h₁ => ?_) fun _ _ e => e)
  obtain ⟨its, Inv, ax, news, rfl, F, N, S, hsz, hI, R⟩ := h₁
  have hl : s₁.heap.IsTuple ax its := let ⟨o, e, r⟩ := S; ⟨o, F.keep _ _ e, r⟩
  have hlt : ax < s₁.heap.objs.size := by obtain ⟨_, e, _⟩ := hl; exact Heap.lt_size e
  refine wpAny_pyIter_tuple hl ?_
  have up : ∀ b o, s₁.heap.get? b = some o → (s₁.heap.push { cls := .type "tuple_iterator", data := .fields #[.ref ax, .int 0 0] }).get? b = some o := fun b o e => Heap.get?_push_of_some _ e
  refine block_U (Fin := FinE h₀ L m { s₁ with heap := s₁.heap.push { cls := .type "tuple_iterator", data := .fields #[.ref ax, .int 0 0] } } Q) (Walks.tuple hh s₁.heap.objs.size ax (Nat.ne_of_lt hlt) its) hsz (fun i h st => by obtain ⟨o, e, _⟩ := st.1; exact ⟨o, e⟩) (st_tup S) hcell hkind hx ⟨⟨_, Heap.get?_push_size _ rfl, rfl, rfl⟩, let ⟨o, e, r⟩ := hl; ⟨o, up _ _ e, r⟩⟩ (fun b hb => ?_)
    (F.keeps up) (N.grown up) (Nat.ne_of_lt F.ns.lt) (next_is_new F) (fun p hp => Nat.ne_of_lt (Heap.lt_size (N p hp).1)) trivial (rest_ind (Fin := FinE h₀ L m _ Q) Inv (R _ ⟨_, rfl⟩).1 (R _ ⟨_, rfl⟩).2 _ _ _ _ hI) ?_
  · show b < (s₁.heap.push _).objs.size
    rw [Heap.size_push]
    rcases List.mem_cons.mp hb with rfl | hb
    · exact Nat.lt_succ_self _
    · rw [List.mem_singleton.mp hb]; exact Nat.lt_succ_of_lt hlt
  · intro D C h tk m' ys news' F' N' o1 hn hC₀ hD₀ hCL hDL hCD offC fin
    refine ⟨m', hn, fun h'' hs'' => fin D h'' tk (F'.change hs'' hCL hC₀) (fun p hp => ?_) o1⟩
    refine ⟨hs''.extBut _ _ ?_ (N' p hp).1, (N' p hp).2⟩
    rcases List.mem_cons.mp hp with rfl | hp
    · exact Ne.symm hCD
    · exact offC p hp
/-- the same, of pairs: two names -/
inductive PairI (h₀ : Heap) (L : Addr) (m : Str → Option Value) (s₁ : Shared) (I ax : Nat) (its : Array Value) (Inv : Nat → List Value → List (Addr × Obj) → Prop) : Nat → Shared → Prop
  | mk (h' : Heap) (tk i : Nat) (ys : List Value) (m' : Str → Option Value) (news' : List (Addr × Obj)) (hi : i ≤ its.size) (hyl : ys.length = i) (hit : h'.IsTupleIter I ax i) (F : Fr h₀ L h' m) (hn : h'.Ns (I + 1 + 1) m') (N : News h₀ L h' ((I + 1, lst ys) :: news')) (off : Off3 I (I + 1 + 1) (I + 1) news') (hJ : Inv i ys news') :
    PairI h₀ L m s₁ I ax its Inv (its.size + 1 - i) { s₁ with heap := h', toks := tk }
theorem comp_pairs {elt iter : Expr} {x y : Str} {px py tp : Pos} {tk₀} {scope : Scope} {cl : List (Str × Addr)} {pos : Pos} {Q : Value → Shared → Prop}
    (F₀ : Fr h₀ L s.heap m) (hclos : closureFor scope env = pure cl) (hcell : ∀ y ∈ scope.names, y.2 ≠ .cell) (hkind : scope.kind = .function)
    (hnames : ∀ y ∈ scope.names, y.2 = .local → scope.names.lookup y.1 = some .local) (hx : scope.names.lookup x = some .local) (hy : scope.names.lookup y = some .local) (hxy : x ≠ y) (hh : A.handled = none)
    (h : wpAny (model prog w) A (eval iter env) (PairSrc prog w A h₀ L m env elt x y scope cl Q) E s)
    (hs : ∀ x, foldedSetIterable iter env x = pure x := by intro _; rfl) :
    wpAny (model prog w) A (eval (.ListComp elt [⟨.Tuple [.Name x px, .Name y py] tk₀ tp, iter, [], 0⟩] scope pos) env) Q E s := by
  rw [eval_ListComp]
  refine wpAny_comprehension_free (use := none) rfl hs hclos hkind hnames (wpAny_mono h (fun xv s₁ h₁ => ?_) fun _ _ e => e)
  obtain ⟨its, Inv, ax, news, rfl, F, N, S, hsz, hI, hP, R⟩ := h₁
  have hl : s₁.heap.IsTuple ax its := let ⟨o, e, r⟩ := S; ⟨o, F.keep _ _ e, r⟩
  have hax : ax < s₁.heap.objs.size := by obtain ⟨_, e, _⟩ := hl; exact Heap.lt_size e
  refine wpAny_pyIter_tuple hl ?_
  -- the addresses: I the iterator's, D the list's, C the names'
  obtain ⟨I, hIe⟩ : ∃ I : Nat, s₁.heap.objs.size = I := ⟨_, rfl⟩
  rw [hIe]
  have hIlt : ∀ (b : Nat) (o : Obj), s₁.heap.get? b = some o → b < I := fun b o e => hIe ▸ Heap.lt_size e
  have up : ∀ b o, s₁.heap.get? b = some o → (s₁.heap.push { cls := .type "tuple_iterator", data := .fields #[.ref ax, .int 0 0] }).get? b = some o := fun b o e => Heap.get?_push_of_some _ e
  have hit : (s₁.heap.push { cls := .type "tuple_iterator", data := .fields #[.ref ax, .int 0 0] }).IsTupleIter I ax 0 := hIe ▸ ⟨_, Heap.get?_push_size _ rfl, rfl, rfl⟩
  have hsI : (s₁.heap.push { cls := .type "tuple_iterator", data := .fields #[.ref ax, .int 0 0] }).objs.size = I + 1 := by rw [Heap.size_push, hIe]
  generalize s₁.heap.push { cls := .type "tuple_iterator", data := .fields #[.ref ax, .int 0 0] } = H1 at up hit hsI
  refine wpAny_newObj_type ?_
  show wpAny _ A (newFunctionEnv _ _ _ _ _ _ _ _ _) _ _ _
  have up2 : ∀ b o, H1.get? b = some o → (H1.push { cls := .type "list", dict := none, data := .seq ([] : List Value).toArray }).get? b = some o := fun b o e => Heap.get?_push_of_some _ e
  have hD0 : (H1.push { cls := .type "list", dict := none, data := .seq ([] : List Value).toArray }).get? H1.objs.size = some (lst []) := Heap.get?_push_size _ rfl
  have hsD : (H1.push { cls := .type "list", dict := none, data := .seq ([] : List Value).toArray }).objs.size = I + 1 + 1 := by rw [Heap.size_push, hsI]
  rw [hsI] at hD0
  show wpAny _ A _ _ _ { s₁ with heap := H1.push { cls := .type "list", dict := none, data := .seq ([] : List Value).toArray } }
  rw [hsI]
  generalize H1.push { cls := .type "list", dict := none, data := .seq ([] : List Value).toArray } = H2 at up2 hD0 hsD
  refine wpAny_newFunctionEnv hcell (by intro y hy; simp at hy) (fun h₁ hns₁ hsb₁ => ?_) hkind
  dsimp only at hns₁ hsb₁ ⊢
  rw [hsD] at hns₁ hsb₁ ⊢
  have old : ∀ b o, s₁.heap.get? b = some o → h₁.get? b = some o := fun b o e => hsb₁.extBut b o (by have := hIlt b o e; exact Nat.ne_of_lt (by lia)) (Heap.get?_push_of_some _ (up2 _ _ (up _ _ e)))
  have fresh : ∀ b : Nat, I ≤ b → h₀.get? b = none := fun b hb => by
    cases e : h₀.get? b with
    | none => rfl
    | some o => exact absurd (hIlt b o (F.keep _ _ e)) (Nat.not_lt.mpr hb)
  have hLI : L < I := hIe ▸ F.ns.lt
  have f1 := fresh I (Nat.le_refl _)
  have f2 := fresh (I + 1) (by lia)
  have f3 := fresh (I + 1 + 1) (by lia)
  have n1 : (I : Nat) ≠ L := by lia
  have n2 : (I + 1 : Nat) ≠ L := by lia
  have n3 : (I + 1 + 1 : Nat) ≠ L := by lia
  have hit1 : h₁.IsTupleIter I ax 0 := let ⟨o, e, r⟩ := hit; ⟨o, hsb₁.extBut _ _ (show (I : Nat) ≠ I + 1 + 1 by lia) (Heap.get?_push_of_some _ (up2 _ _ e)), r⟩
  have hN1 : News h₀ L h₁ ((I + 1, lst []) :: news) := fun p hp => by
    rcases List.mem_cons.mp hp with rfl | hp
    · exact ⟨hsb₁.extBut _ _ (show (I + 1 : Nat) ≠ I + 1 + 1 by lia) (Heap.get?_push_of_some _ hD0), n2, f2⟩
    · exact ⟨old _ _ (N p hp).1, (N p hp).2⟩
  have off₀ : Off3 I (I + 1 + 1) (I + 1) news := Off3.of fun p hp => by
    have := hIlt _ _ (N p hp).1
    exact ⟨Nat.ne_of_lt (by lia), Nat.ne_of_lt (by lia), Nat.ne_of_lt (by lia)⟩
  have R' := R { s₁ with heap := H1 } ⟨_, rfl⟩
  have W := Walks.tuple (prog := prog) (w := w) hh I ax (Nat.ne_of_lt (hIe ▸ hax)) its
  have tp1 : ∀ {h' : Heap}, (∀ b o, h₀.get? b = some o → h'.get? b = some o) → h'.IsTuple ax its := fun k => let ⟨o, e, r⟩ := S; ⟨o, k _ _ e, r⟩
  have loop : ∀ s₃ : Shared, s₃ = { s₁ with heap := h₁, toks := s₁.toks + ([] : List (Str × Value)).length } →
      codeAny (model prog w) A (.compLoop (.ListComp elt [⟨.Tuple [.Name x px, .Name y py] tk₀ tp, iter, [], 0⟩] scope pos) 0 (.ref I) (.ref (I + 1)) (compEnvC scope cl (I + 1 + 1) env)) (compPost (model prog w) A E none Q (.ref (I + 1)) (I + 1 + 1)) s₃ := by
    rintro s₃ rfl
    refine LCp.codeAny_compLoop_pair
      (PairI h₀ L m s₁ I ax its Inv) ?_ (its.size + 1) ⟨h₁, _, 0, [], _, news, Nat.zero_le _, rfl, hit1, F.keeps old, hns₁, hN1, off₀, hI⟩
    rintro k s' ⟨h', tk, i, ys, m', news', hi, hyl, hit', F', hn', N', off', hJ⟩
    have offI : ∀ p ∈ (I + 1, lst ys) :: news', p.1 ≠ I := fun p hp => by
      rcases List.mem_cons.mp hp with rfl | hp
      · exact Nat.ne_of_gt (Nat.lt_succ_self _)
      · exact (off'.mem p hp).1
    by_cases hlt : i < its.size
    · refine W.item i _ _ _ hlt ⟨hit', tp1 F'.keep⟩ fun v h₂ tk₂ hPv hst₂ hk₂ => ?_
      obtain ⟨t, v₁, v₂, rfl, ht⟩ := hP i v hPv
      have F₂ : Fr h₀ L h₂ m := fr_but F' hk₂ (Ne.symm n1) f1
      have N₂ := news_but N' hk₂ offI
      have C₂ : h₂.Ns (I + 1 + 1) m' := hn'.at' fun o e => hk₂ _ o (by simp only [List.mem_singleton]; exact Nat.ne_of_gt (by lia)) e
      have ht2 : IsTup h₂ t #[v₁, v₂] := let ⟨o, e, r⟩ := ht; ⟨o, F₂.keep _ _ e, r⟩
      refine go_tupiter hst₂.1 (assign_Tuple_tuple hh ht2 rfl rfl fun h₅ he => ?_)
      have he' : ∀ b o, h₂.get? b = some o → h₅.get? b = some o := fun b o e => he b o (Nat.ne_of_lt (Heap.lt_size e)) e
      refine assignInOrder_cons (wpAny_assign_Name (wpAny_storeName_local (lookup_relabel_local hx) (C₂.at' fun o e => he' _ o e) (fun h₆ hn₆ hs₆ => ?_) (by simp [compEnvC, relabel, hkind])))
      refine assignInOrder_cons (wpAny_assign_Name (wpAny_storeName_local (lookup_relabel_local hy) hn₆ (fun h₃ hn₃ hs₃ => ?_) (by simp [compEnvC, relabel, hkind])))
      refine assignInOrder_nil ?_
      have up3 : ∀ b o, (b : Nat) ≠ I + 1 + 1 → h₂.get? b = some o → h₃.get? b = some o := fun b o hb e => hs₃.extBut b o hb (hs₆.extBut b o hb (he' b o e))
      obtain ⟨oI, heI⟩ : ∃ o, h₃.get? I = some o := let ⟨o, e, _⟩ := hst₂.1; ⟨o, up3 _ _ (by lia) e⟩
      obtain ⟨oC, heC, hoC⟩ := ns_obj hn₃
      have F₃ : Fr h₀ L h₃ m := ((F₂.keeps he').change hs₆ n3 f3).change hs₃ n3 f3
      have N₃ : News h₀ L h₃ ((I, oI) :: (I + 1 + 1, oC) :: (I + 1, lst ys) :: news') := fun p hp => by
        rcases List.mem_cons.mp hp with rfl | hp
        · exact ⟨heI, n1, f1⟩
        · rcases List.mem_cons.mp hp with rfl | hp
          · exact ⟨heC, n3, f3⟩
          · refine ⟨up3 _ _ ?_ (N₂ p hp).1, (N₂ p hp).2⟩
            rcases List.mem_cons.mp hp with rfl | hp
            · exact Nat.ne_of_lt (Nat.lt_succ_self _)
            · exact (off'.mem p hp).2.1
      refine wpAny_mono ((R s₁ ⟨_, rfl⟩).2 i ys news' hJ t v₁ v₂ I oI (I + 1 + 1) oC (I + 1) _ h₃ _ _ hPv ht hoC (by simp [hxy]) (by simp) F₃ N₃ off' ⟨show (I : Nat) ≠ _ by lia, show (I : Nat) ≠ _ by lia, show (I + 1 + 1 : Nat) ≠ _ by lia⟩) (fun z s₄ h₄ => ?_) fun _ _ e => e
      obtain ⟨h₄, tk₄, news₄, rfl, F₄, N₄, off₄, _, J₄⟩ := h₄
      have zI := (N₄ (I, oI) List.mem_cons_self).1
      have zC := (N₄ (I + 1 + 1, oC) (List.mem_cons_of_mem _ List.mem_cons_self)).1
      have zD := (N₄ (I + 1, lst ys) (List.mem_cons_of_mem _ (List.mem_cons_of_mem _ List.mem_cons_self))).1
      have it4 : h₄.IsTupleIter I ax (i + 1) := by
        obtain ⟨o, e, r⟩ := hst₂.1
        have := up3 _ _ (show (I : Nat) ≠ I + 1 + 1 by lia) e
        rw [heI] at this
        cases this
        exact ⟨oI, zI, r⟩
      refine append_at (hsz := by show ys.toArray.size ≤ sizeLine; rw [List.size_toArray, hyl]; exact Nat.le_trans hi hsz) zD fun h₅ hs₅ hD₅ => ?_
      refine ⟨its.size + 1 - (i + 1), by lia, h₅, tk₄, i + 1, ys ++ [z], _, news₄, hlt, by rw [List.length_append, List.length_singleton, hyl], ?_, F₄.change hs₅ n2 f2, (hoC.ns zC).sameBut hs₅ (show (I + 1 + 1 : Nat) ≠ I + 1 by lia), fun p hp => ?_, off₄, J₄⟩
      · obtain ⟨o, e, r⟩ := it4
        exact ⟨o, hs₅.extBut _ _ (show (I : Nat) ≠ I + 1 by lia) e, r⟩
      · rcases List.mem_cons.mp hp with rfl | hp
        · exact ⟨hD₅.trans (congrArg some (lst_snoc ys z)), n2, f2⟩
        · have := N₄ p (List.mem_cons_of_mem _ (List.mem_cons_of_mem _ (List.mem_cons_of_mem _ hp)))
          exact ⟨hs₅.extBut _ _ (off₄.mem p hp).2.2 this.1, this.2⟩
    · obtain rfl : i = its.size := Nat.le_antisymm hi (Nat.not_lt.mp hlt)
      refine W.done _ _ _ ⟨hit', tp1 F'.keep⟩ fun h₂ tk₂ hk₂ => ?_
      have fin := (R s₁ ⟨_, rfl⟩).1 ys news' hJ
      refine ⟨m', hn'.at' fun o e => hk₂ _ o (by simp only [List.mem_singleton]; exact Nat.ne_of_gt (by lia)) e, fun h'' hs'' => fin (I + 1) h'' tk₂ ((fr_but F' hk₂ (Ne.symm n1) f1).change hs'' n3 f3) (fun p hp => ?_) off'.one⟩
      have z := news_but N' hk₂ offI p hp
      refine ⟨hs''.extBut _ _ ?_ z.1, z.2⟩
      rcases List.mem_cons.mp hp with rfl | hp
      · exact Nat.ne_of_lt (Nat.lt_succ_self _)
      · exact (off'.mem p hp).2.1
  exact codeAny_compStart_list (loop _ rfl) (W.self 0 _ _ _ ⟨hit1, tp1 (F.keeps old).keep⟩ (loop _ rfl))
end
open LCg
theorem turn_two0 (elt t1 i1 t2 i2 : Expr) (scope : Scope) (pos : Pos) (it acc : Value) (env : Env) :
    compTurn (.ListComp elt [⟨t1, i1, [], 0⟩, ⟨t2, i2, [], 0⟩] scope pos) 0 it acc env = (standAt i1.pos >>= fun _ => pyNext it >>= fun r => match r with
      | none => pure (.done .next)
      | some v => letOwnedTupleGo t1 it v >>= fun _ => assign t1 env v >>= fun _ =>
        (eval i2 env >>= fun x => standAt i2.pos >>= fun _ => foldedSetIterable i2 env x >>= fun x => (holding [x] (pyIter x)) >>= fun j => runOwn (.compStart (.ListComp elt [⟨t1, i1, [], 0⟩, ⟨t2, i2, [], 0⟩] scope pos) 1 j acc env) env >>= fun _ =>
          again (.compLoop (.ListComp elt [⟨t1, i1, [], 0⟩, ⟨t2, i2, [], 0⟩] scope pos) 0 it acc env))) := by rfl
theorem turn_two1 (elt t1 i1 t2 i2 : Expr) (scope : Scope) (pos : Pos) (it acc : Value) (env : Env) :
    compTurn (.ListComp elt [⟨t1, i1, [], 0⟩, ⟨t2, i2, [], 0⟩] scope pos) 1 it acc env = (standAt i2.pos >>= fun _ => pyNext it >>= fun r => match r with
      | none => pure (.done .next)
      | some v => letOwnedTupleGo t2 it v >>= fun _ => assign t2 env v >>= fun _ =>
        (eval elt env >>= fun x => call (.builtin "list.append") [acc, x] >>= fun _ => pure ()) >>= fun _ =>
          again (.compLoop (.ListComp elt [⟨t1, i1, [], 0⟩, ⟨t2, i2, [], 0⟩] scope pos) 1 it acc env)) := by rfl
section
variable {prog : Program} {w : World} {A : Around} {R : Result → Shared → Prop} {s : Shared} {elt t1 i1 t2 i2 : Expr} {scope : Scope} {pos : Pos} {it acc : Value} {env : Env}
theorem start_two1
    (h0 : codeAny (model prog w) A (.compLoop (.ListComp elt [⟨t1, i1, [], 0⟩, ⟨t2, i2, [], 0⟩] scope pos) 1 it acc env) R s)
    (h : wpAny (model prog w) A (pyIter it) (fun it' s' => codeAny (model prog w) A (.compLoop (.ListComp elt [⟨t1, i1, [], 0⟩, ⟨t2, i2, [], 0⟩] scope pos) 1 it' acc env) R s')
      (notedBy (model prog w) A env fun x s' => R (.error x) s') s) :
    codeAny (model prog w) A (.compStart (.ListComp elt [⟨t1, i1, [], 0⟩, ⟨t2, i2, [], 0⟩] scope pos) 1 it acc env) R s := by
  refine codeAny_of_tree ?_
  show wpAny _ _ ((compStart (.ListComp elt [⟨t1, i1, [], 0⟩, ⟨t2, i2, [], 0⟩] scope pos) 1 it acc env).onRaise (fun x => do noteFrame x env; standAt theWindowsPlace)) _ _ s
  refine wpAny_notedAt ?_
  unfold compStart
  show wpAny _ _ (ask >>= _) _ _ s
  refine wpAny_bind (wpAny_askSetting (wpAny_ite ?_))
  split
  · first
      | exact wpAny_bind (wpAny_pure (wpAny_pure (And.intro rfl h0)))
      | exact wpAny_pure (And.intro rfl h0)
  · first
      | exact wpAny_bind (wpAny_rule (wpAny_bind (wpAny_standAt (wpAny_bind (wpAny_mono h (fun it' s' h' => wpAny_pure (And.intro rfl h')) fun _ _ x => x)))))
      | (refine wpAny_bind (wpAny_rule ?_); show wpAny _ _ (standAt i2.pos >>= _) _ _ s; exact wpAny_bind (wpAny_standAt (wpAny_bind (wpAny_mono h (fun it' s' h' => wpAny_pure (And.intro rfl h')) fun _ _ x => x))))
end
/-- the lists behind the tuples' refs -/
inductive Tups (h : Heap) : List Value → List (List Value) → Prop
  | nil : Tups h [] []
  | cons {t : Addr} {n : Nat} {vs : List Value} {its : List Value} {vss : List (List Value)} : h.get? t = some (tupOf vs n) → Tups h its vss → Tups h (.ref t :: its) (vs :: vss)
theorem Tups.length {h : Heap} {its : List Value} {vss : List (List Value)} (x : Tups h its vss) : its.length = vss.length := Tups.rec (motive := fun its vss _ => its.length = vss.length) rfl (fun _ _ ih => congrArg Nat.succ ih) x
theorem Tups.get {h : Heap} {its : List Value} {vss : List (List Value)} {i : Nat} {v : Value} (x : Tups h its vss) : its[i]? = some v → ∃ t vs n, v = .ref t ∧ vss[i]? = some vs ∧ h.get? t = some (tupOf vs n) := by
  refine Tups.rec (motive := fun its vss _ => ∀ i v, its[i]? = some v → ∃ t vs n, v = .ref t ∧ vss[i]? = some vs ∧ h.get? t = some (tupOf vs n)) (fun i v e => by cases i <;> cases e) (fun e _ ih i v q => ?_) x i v
  cases i with
  | zero => cases q; exact ⟨_, _, _, rfl, rfl, e⟩
  | succ i => exact ih i v q
theorem flat_take {vss : List (List Value)} {i : Nat} {vs : List Value} (h : vss[i]? = some vs) : (vss.take (i + 1)).flatten = (vss.take i).flatten ++ vs := by
  rw [List.take_add_one, h, List.flatten_append]; simp
theorem flat_le {vss : List (List Value)} : ∀ (i : Nat), (vss.take i).flatten.length ≤ vss.flatten.length := fun i => by
  conv => rhs; rw [← List.take_append_drop i vss, List.flatten_append, List.length_append]
  lia
noncomputable def FlatSrc (g : Heap) (L : Nat) (m : Str → Option Value) (Q : Value → Shared → Prop) (xv : Value) (s₁ : Shared) : Prop :=
  ∃ (ax : Addr) (its : List Value) (vss : List (List Value)), xv = .ref ax ∧ Fr g L s₁.heap m ∧ s₁.heap.IsList ax its.toArray ∧ Tups s₁.heap its vss ∧ its.length ≤ 10000 ∧ vss.flatten.length ≤ 10000 ∧
    ∀ D h tk, Fr g L h m → (∀ b o, s₁.heap.get? b = some o → h.get? b = some o) → s₁.heap.objs.size ≤ D → h.get? D = some (lst vss.flatten) → Q (.ref D) { s₁ with heap := h, toks := tk }
section
variable {prog : Program} {w : World} {A : Around} {E : Value → Shared → Prop} {s : Shared} {g : Heap} {L : Nat} {m : Str → Option Value} {env : Env}
inductive FlatO (s₁ : Shared) (I ax : Nat) (its : List Value) (vss : List (List Value)) : Nat → Shared → Prop
  | mk (h' : Heap) (tk i : Nat) (m' : Str → Option Value) (hi : i ≤ its.length) (hit : h'.IsListIter I ax i) (hn : h'.Ns (I + 1 + 1) m') (old : ∀ b o, s₁.heap.get? b = some o → h'.get? b = some o) (hD : h'.get? (I + 1) = some (lst (vss.take i).flatten)) :
    FlatO s₁ I ax its vss (its.length + 1 - i) { s₁ with heap := h', toks := tk }
inductive FlatN (s₁ : Shared) (I ax J t i : Nat) (vs : List Value) (vss : List (List Value)) : Nat → Shared → Prop
  | mk (h' : Heap) (tk j : Nat) (m' : Str → Option Value) (hj : j ≤ vs.length) (hit : h'.IsTupleIter J t j) (hI : h'.IsListIter I ax (i + 1)) (hn : h'.Ns (I + 1 + 1) m') (old : ∀ b o, s₁.heap.get? b = some o → h'.get? b = some o) (hD : h'.get? (I + 1) = some (lst ((vss.take i).flatten ++ vs.take j))) :
    FlatN s₁ I ax J t i vs vss (vs.length + 1 - j) { s₁ with heap := h', toks := tk }
theorem comp_flat {iter : Expr} {x y : Str} {p1 p2 p3 p4 : Pos} {scope : Scope} {cl : List (Str × Addr)} {pos : Pos} {Q : Value → Shared → Prop}
    (F₀ : Fr g L s.heap m) (hclos : closureFor scope env = pure cl) (hcell : ∀ y ∈ scope.names, y.2 ≠ .cell) (hkind : scope.kind = .function)
    (hnames : ∀ y ∈ scope.names, y.2 = .local → scope.names.lookup y.1 = some .local) (hx : scope.names.lookup x = some .local) (hy : scope.names.lookup y = some .local) (hh : A.handled = none)
    (h : wpAny (model prog w) A (eval iter env) (FlatSrc g L m Q) E s)
    (hd1 : (x == ("__debug__" : Str)) = false := by decide) (hd2 : (y == ("__debug__" : Str)) = false := by decide)
    (hs : ∀ x, foldedSetIterable iter env x = pure x := by intro _; rfl) :
    wpAny (model prog w) A (eval (.ListComp (.Name y p4) [⟨.Name x p1, iter, [], 0⟩, ⟨.Name y p2, .Name x p3, [], 0⟩] scope pos) env) Q E s := by
  rw [eval_ListComp]
  refine wpAny_comprehension_free (use := none) rfl hs hclos hkind hnames (wpAny_mono h (fun xv s₁ h₁ => ?_) fun _ _ e => e)
  obtain ⟨ax, its, vss, rfl, F, hl, T, hn, hf, fin⟩ := h₁
  have hax : ax < s₁.heap.objs.size := by obtain ⟨_, e, _⟩ := hl; exact Heap.lt_size e
  refine wpAny_pyIter_list hl ?_
  obtain ⟨I, hIe⟩ : ∃ I : Nat, s₁.heap.objs.size = I := ⟨_, rfl⟩
  rw [hIe] at fin ⊢
  have hIlt : ∀ (b : Nat) (o : Obj), s₁.heap.get? b = some o → b < I := fun b o e => hIe ▸ Heap.lt_size e
  have up : ∀ b o, s₁.heap.get? b = some o → (s₁.heap.push { cls := .type "list_iterator", data := .fields #[.ref ax, .int 0 0] }).get? b = some o := fun b o e => Heap.get?_push_of_some _ e
  have hit : (s₁.heap.push { cls := .type "list_iterator", data := .fields #[.ref ax, .int 0 0] }).IsListIter I ax 0 := hIe ▸ ⟨_, Heap.get?_push_size _ rfl, rfl, rfl⟩
  have hsI : (s₁.heap.push { cls := .type "list_iterator", data := .fields #[.ref ax, .int 0 0] }).objs.size = I + 1 := by rw [Heap.size_push, hIe]
  generalize s₁.heap.push { cls := .type "list_iterator", data := .fields #[.ref ax, .int 0 0] } = H1 at up hit hsI
  refine wpAny_newObj_type ?_
  show wpAny _ A (newFunctionEnv _ _ _ _ _ _ _ _ _) _ _ _
  have up2 : ∀ b o, H1.get? b = some o → (H1.push { cls := .type "list", dict := none, data := .seq ([] : List Value).toArray }).get? b = some o := fun b o e => Heap.get?_push_of_some _ e
  have hD0 : (H1.push { cls := .type "list", dict := none, data := .seq ([] : List Value).toArray }).get? H1.objs.size = some (lst []) := Heap.get?_push_size _ rfl
  have hsD : (H1.push { cls := .type "list", dict := none, data := .seq ([] : List Value).toArray }).objs.size = I + 1 + 1 := by rw [Heap.size_push, hsI]
  rw [hsI] at hD0
  show wpAny _ A _ _ _ { s₁ with heap := H1.push { cls := .type "list", dict := none, data := .seq ([] : List Value).toArray } }
  rw [hsI]
  generalize H1.push { cls := .type "list", dict := none, data := .seq ([] : List Value).toArray } = H2 at up2 hD0 hsD
  refine wpAny_newFunctionEnv hcell (by intro y hy; simp at hy) (fun h₁ hns₁ hsb₁ => ?_) hkind
  dsimp only at hns₁ hsb₁ ⊢
  rw [hsD] at hns₁ hsb₁ ⊢
  have old : ∀ b o, s₁.heap.get? b = some o → h₁.get? b = some o := fun b o e => hsb₁.extBut b o (by have := hIlt b o e; exact Nat.ne_of_lt (by lia)) (Heap.get?_push_of_some _ (up2 _ _ (up _ _ e)))
  have hit1 : h₁.IsListIter I ax 0 := let ⟨o, e, r⟩ := hit; ⟨o, hsb₁.extBut _ _ (show (I : Nat) ≠ I + 1 + 1 by lia) (Heap.get?_push_of_some _ (up2 _ _ e)), r⟩
  have hD1 : h₁.get? (I + 1) = some (lst []) := hsb₁.extBut _ _ (show (I + 1 : Nat) ≠ I + 1 + 1 by lia) (Heap.get?_push_of_some _ hD0)
  have lk : ∀ {h' : Heap}, (∀ b o, s₁.heap.get? b = some o → h'.get? b = some o) → h'.IsList ax its.toArray := fun k => let ⟨o, e, r⟩ := hl; ⟨o, k _ _ e, r⟩
  have xl : (compEnvC scope cl (I + 1 + 1) env).kindOf x = some .local := lookup_relabel_local hx
  have yl : (compEnvC scope cl (I + 1 + 1) env).kindOf y = some .local := lookup_relabel_local hy
  have xf : ((compEnvC scope cl (I + 1 + 1) env).scope.kind == .class || ((compEnvC scope cl (I + 1 + 1) env).scope.kind == .module && (compEnvC scope cl (I + 1 + 1) env).locals != (compEnvC scope cl (I + 1 + 1) env).globals)) = false := by simp [compEnvC, relabel, hkind]
  have W := Walks.list (prog := prog) (w := w) hh I ax (Nat.ne_of_lt (hIe ▸ hax)) its.toArray
  have loop : ∀ s₃ : Shared, s₃ = { s₁ with heap := h₁, toks := s₁.toks + ([] : List (Str × Value)).length } →
      codeAny (model prog w) A (.compLoop (.ListComp (.Name y p4) [⟨.Name x p1, iter, [], 0⟩, ⟨.Name y p2, .Name x p3, [], 0⟩] scope pos) 0 (.ref I) (.ref (I + 1)) (compEnvC scope cl (I + 1 + 1) env)) (compPost (model prog w) A E none Q (.ref (I + 1)) (I + 1 + 1)) s₃ := by
    rintro s₃ rfl
    refine codeAny_loop rfl (FlatO s₁ I ax its vss) ?_
      (its.length + 1) ⟨h₁, _, 0, _, Nat.zero_le _, hit1, hns₁, old, hD1⟩
    rintro k s' ⟨h', tk, i, m', hi, hit', hn', old', hD'⟩
    show wpAny _ _ ((compTurn _ 0 _ _ _).onRaise (fun x => do noteFrame x _; theTreesLotGoes x)) _ _ _
    refine wpAny_noted ?_
    rw [turn_two0]
    refine wpAny_bind (wpAny_standAt (wpAny_bind ?_))
    by_cases hlt : i < its.length
    · refine W.item i _ _ _ (by simpa using hlt) ⟨hit', lk old'⟩ fun v h₂ tk₂ hPv hst₂ hk₂ => ?_
      obtain ⟨t, vs, nt, rfl, hvs, ht⟩ := T.get (i := i) (v := v) (by simpa using hPv)
      have k2 : ∀ b o, s₁.heap.get? b = some o → h₂.get? b = some o := fun b o e => hk₂ b o (by simp only [List.mem_singleton]; exact Nat.ne_of_lt (hIlt _ _ e)) (old' _ _ e)
      refine wpAny_bind (wpAny_of_eq (show letOwnedTupleGo _ _ _ = pure () from rfl) (wpAny_bind ?_))
      refine wpAny_assign_Name (wpAny_storeName_local xl (hn'.at' fun o e => hk₂ _ o (by simp only [List.mem_singleton]; exact Nat.ne_of_gt (by lia)) e) (fun h₃ hn₃ hs₃ => ?_) xf)
      refine wpAny_bind (wpAny_Name (wpAny_loadName_local (by simp [compEnvC, relabel, hkind]) xl hn₃ (if_pos rfl) ?_) hd1)
      refine wpAny_bind (wpAny_standAt (wpAny_bind (wpAny_of_eq (show foldedSetIterable _ _ _ = pure _ from rfl) ?_)))
      have k3 : ∀ b o, s₁.heap.get? b = some o → h₃.get? b = some o := fun b o e => hs₃.extBut b o (Nat.ne_of_lt (Nat.lt_succ_of_lt (Nat.lt_succ_of_lt (hIlt _ _ e)))) (k2 _ _ e)
      have ht3 : h₃.IsTuple t vs.toArray := ⟨_, k3 _ _ ht, rfl, _, rfl⟩
      refine wpAny_bind (wpAny_holding (wpAny_pyIter_tuple ht3 ?_))
      obtain ⟨J, hJe⟩ : ∃ J : Nat, h₃.objs.size = J := ⟨_, rfl⟩
      dsimp only at hJe ⊢
      rw [hJe]
      have up4 : ∀ b o, h₃.get? b = some o → (h₃.push { cls := .type "tuple_iterator", data := .fields #[.ref t, .int 0 0] }).get? b = some o := fun b o e => Heap.get?_push_of_some _ e
      have hitJ : (h₃.push { cls := .type "tuple_iterator", data := .fields #[.ref t, .int 0 0] }).IsTupleIter J t 0 := hJe ▸ ⟨_, Heap.get?_push_size _ rfl, rfl, rfl⟩
      generalize h₃.push { cls := .type "tuple_iterator", data := .fields #[.ref t, .int 0 0] } = h₄ at up4 hitJ
      have hn4 := hn₃.keeps up4
      have zI : h₃.IsListIter I ax (i + 1) := let ⟨o, e, r⟩ := hst₂.1; ⟨o, hs₃.extBut _ _ (show (I : Nat) ≠ I + 1 + 1 by lia) e, r⟩
      have zD : h₃.get? (I + 1) = some (lst (vss.take i).flatten) := hs₃.extBut _ _ (show (I + 1 : Nat) ≠ I + 1 + 1 by lia) (hk₂ _ _ (by simp only [List.mem_singleton]; exact Nat.ne_of_gt (Nat.lt_succ_self I)) hD')
      have lJ : ∀ (b : Nat) o, h₃.get? b = some o → b < J := fun b o e => hJe ▸ Heap.lt_size e
      have JD : (I + 1 : Nat) < J := lJ _ _ zD
      have JI : (I : Nat) < J := let ⟨o, e, _⟩ := zI; lJ _ _ e
      have JC : (I + 1 + 1 : Nat) < J := let ⟨o, _, _, e, _⟩ := hn₃; lJ _ _ e
      have Jt : (t : Nat) < J := lJ _ _ (k3 _ _ ht)
      refine wpAny_bind (wpAny_runOwn ?_)
      have W2 := Walks.tuple (prog := prog) (w := w) (A := A) hh J t (Nat.ne_of_lt Jt) vs.toArray
      refine (fun inner => start_two1 inner (W2.self 0 _ _ _ ⟨hitJ, ⟨_, up4 _ _ (k3 _ _ ht), rfl, _, rfl⟩⟩ inner)) ?_
      · refine codeAny_loop rfl (FlatN s₁ I ax J t i vs vss) ?_
          (vs.length + 1) ⟨h₄, _, 0, _, Nat.zero_le _, hitJ, let ⟨o, e, r⟩ := zI; ⟨o, up4 _ _ e, r⟩, hn4, fun b o e => up4 _ _ (k3 _ _ e), by rw [List.take_zero, List.append_nil]; exact up4 _ _ zD⟩
        rintro k s' ⟨h5, tk5, j, m5, hj, hit5, hI5, hn5, old5, hD5⟩
        show wpAny _ _ ((compTurn _ 1 _ _ _).onRaise (fun x => do noteFrame x _; theTreesLotGoes x)) _ _ _
        refine wpAny_noted ?_
        rw [turn_two1]
        refine wpAny_bind (wpAny_standAt (wpAny_bind ?_))
        have tp5 : h5.IsTuple t vs.toArray := ⟨_, old5 _ _ ht, rfl, _, rfl⟩
        by_cases hjl : j < vs.length
        · refine W2.item j _ _ _ (by simpa using hjl) ⟨hit5, tp5⟩ fun v6 h₆ tk₆ hP6 hst₆ hk₆ => ?_
          have nJ : ∀ {b : Nat}, b < J → b ∉ [J] := fun hb => by simp only [List.mem_singleton]; exact Nat.ne_of_lt hb
          refine wpAny_bind (wpAny_of_eq (show letOwnedTupleGo _ _ _ = pure () from rfl) (wpAny_bind ?_))
          refine wpAny_assign_Name (wpAny_storeName_local yl (hn5.at' fun o e => hk₆ _ o (nJ JC) e) (fun h₇ hn₇ hs₇ => ?_) xf)
          refine wpAny_bind (wpAny_bind (wpAny_Name (wpAny_loadName_local (by simp [compEnvC, relabel, hkind]) yl hn₇ (if_pos rfl) ?_) hd2))
          have k7 : ∀ (b : Nat) o, b < J → b ≠ I + 1 + 1 → h5.get? b = some o → h₇.get? b = some o := fun b o hb hc e => hs₇.extBut b o hc (hk₆ _ o (nJ hb) e)
          have D7 := k7 _ _ JD (show (I + 1 : Nat) ≠ I + 1 + 1 by lia) hD5
          refine wpAny_bind (append_at (hsz := ?hsz) D7 fun h₈ hs₈ hD₈ => ?main)
          case hsz =>
            have h1 := flat_le (vss := vss) (i + 1)
            rw [flat_take hvs] at h1
            have : sizeLine = 2 ^ 24 := rfl
            simp only [List.length_append] at h1
            have h2 : (vs.take j).length ≤ vs.length := by rw [List.length_take]; lia
            rw [List.size_toArray, List.length_append, this]
            lia
          case main =>
            refine wpAny_pure ?_
            refine wpAny_pure ?_
            refine ⟨rfl, vs.length + 1 - (j + 1), by lia, h₈, _, j + 1, _, hjl, ?_, ?_, hn₇.sameBut hs₈ (show (I + 1 + 1 : Nat) ≠ I + 1 by lia), fun b o e => hs₈.extBut b o (Nat.ne_of_lt (Nat.lt_succ_of_lt (hIlt _ _ e))) (k7 b o (by have := hIlt _ _ e; lia) (Nat.ne_of_lt (by have := hIlt _ _ e; lia)) (old5 _ _ e)), ?_⟩
            · obtain ⟨o, e, r⟩ := hst₆.1
              exact ⟨o, hs₈.extBut _ _ (Nat.ne_of_gt JD) (hs₇.extBut _ _ (Nat.ne_of_gt JC) e), r⟩
            · obtain ⟨o, e, r⟩ := hI5
              exact ⟨o, hs₈.extBut _ _ (show (I : Nat) ≠ I + 1 by lia) (k7 _ _ JI (show (I : Nat) ≠ I + 1 + 1 by lia) e), r⟩
            · have e6 : vs[j]? = some v6 := by simpa using hP6
              rw [List.take_add_one, e6, ← List.append_assoc]
              exact hD₈.trans (congrArg some (lst_snoc _ _))
        · obtain rfl : j = vs.length := Nat.le_antisymm hj (Nat.not_lt.mp hjl)
          refine W2.done _ _ _ ⟨by simpa using hit5, tp5⟩ fun h₆ tk₆ hk₆ => ?_
          have nJ : ∀ {b : Nat}, b < J → b ∉ [J] := fun hb => by simp only [List.mem_singleton]; exact Nat.ne_of_lt hb
          refine wpAny_pure ?_
          show wpAny _ _ (again _) _ _ _
          refine wpAny_pure ⟨rfl, its.length + 1 - (i + 1), by lia, h₆, _, i + 1, _, hlt, ?_, hn5.at' fun o e => hk₆ _ o (nJ JC) e, fun b o e => hk₆ b o (nJ (by have := hIlt _ _ e; lia)) (old5 _ _ e), ?_⟩
          · obtain ⟨o, e, r⟩ := hI5
            exact ⟨o, hk₆ _ _ (nJ JI) e, r⟩
          · rw [flat_take hvs]
            have := hk₆ _ _ (nJ JD) hD5
            rwa [List.take_length] at this
    · obtain rfl : i = its.length := Nat.le_antisymm hi (Nat.not_lt.mp hlt)
      refine W.done _ _ _ ⟨by simpa using hit', lk old'⟩ fun h₂ tk₂ hk₂ => ?_
      refine wpAny_pure ?_
      refine ⟨m', hn'.at' fun o e => hk₂ _ o (by simp only [List.mem_singleton]; exact Nat.ne_of_gt (by lia)) e, fun h'' hs'' => ?_⟩
      have kk : ∀ b o, s₁.heap.get? b = some o → h''.get? b = some o := fun b o e => hs''.extBut b o (Nat.ne_of_lt (Nat.lt_succ_of_lt (Nat.lt_succ_of_lt (hIlt _ _ e)))) (hk₂ b o (by simp only [List.mem_singleton]; exact Nat.ne_of_lt (hIlt _ _ e)) (old' _ _ e))
      refine fin (I + 1) h'' tk₂ (F.keeps kk) kk (Nat.le_succ _) ?_
      have := hs''.extBut _ _ (show (I + 1 : Nat) ≠ I + 1 + 1 by lia) (hk₂ _ _ (by simp only [List.mem_singleton]; exact Nat.ne_of_gt (Nat.lt_succ_self I)) hD')
      rw [T.length, List.take_length] at this
      exact this
  exact codeAny_compStart_list (loop _ rfl) (W.self 0 _ _ _ ⟨hit1, lk old⟩ (loop _ rfl))
end
inductive Part : Value → Option Int → Prop
  | none : Part .none none
  | int (i : Int) (u : Tok) : Part (.int i u) (some i)
section
variable {prog : Program} {w : World} {A : Around} {E : Value → Shared → Prop} {s : Shared}
theorem part_ok {v : Value} {o : Option Int} {Q : Option Int → Shared → Prop} (p : Part v o) (h : Q o s) : wpAny (model prog w) A (Builtin.Slice.slicePartIndex v) Q E s := by
  cases p with
  | none => exact slicePart_none h
  | int i u => exact slicePart_int h
theorem applied {sl : Nat} {vl vu vk : Value} {lo hi st : Option Int} {n a b k : Int} {Q : Int × Int × Nat → Shared → Prop} (hs : s.heap.IsSliceOf sl vl vu vk) (pl : Part vl lo) (pu : Part vu hi) (pk : Part vk st) (hk : st.getD 1 = k) (h0 : k ≠ 0)
    (e : Builtin.Slice.sliceAdjust lo hi k n = (a, b)) (h : Q (a, k, Builtin.Slice.slicePlaces a b k) s) : wpAny (model prog w) A (Builtin.Slice.sliceApplied (.ref sl) (pure n)) Q E s := by
  obtain ⟨os, hos, hcs, hds⟩ := id hs
  unfold Builtin.Slice.sliceApplied Builtin.Slice.sliceFields
  refine wpAny_bind (wpAny_bind (wpAny_field hos hds (x := vl) rfl (wpAny_bind (wpAny_field hos hds (x := vu) rfl (wpAny_bind (wpAny_field hos hds (x := vk) rfl (wpAny_pure ?_)))))))
  refine wpAny_bind (part_ok pk ?_)
  subst hk
  show wpAny _ _ (if ((st.getD 1) == 0) = true then _ else _) _ _ s
  rw [if_neg (by simpa using h0)]
  refine wpAny_bind (part_ok pl (wpAny_bind (part_ok pu (wpAny_bind (wpAny_pure ?_)))))
  show wpAny _ _ (match Builtin.Slice.sliceAdjust lo hi (st.getD 1) n with | (lo, hi) => pure (lo, (st.getD 1), Builtin.Slice.slicePlaces lo hi (st.getD 1))) _ _ s
  rw [e]
  exact wpAny_pure h
theorem getItem_slice {t sl : Nat} {items : Array Value} {vl vu vk : Value} {lo hi st : Option Int} {a b k : Int} {zs : List Value} {Q : Value → Shared → Prop} (ht : IsTup s.heap t items) (hs : s.heap.IsSliceOf sl vl vu vk) (pl : Part vl lo) (pu : Part vu hi) (pk : Part vk st) (hk : st.getD 1 = k) (h0 : k ≠ 0)
    (e : Builtin.Slice.sliceAdjust lo hi k (items.size : Int) = (a, b)) (hno : (a == 0 && k == 1 && Builtin.Slice.slicePlaces a b k == items.size) = false)
    (ez : (List.range (Builtin.Slice.slicePlaces a b k)).filterMap (fun (j : Nat) => items[(a + (j : Int) * k).toNat]?) = zs) (hz : zs.length ≤ sizeLine)
    (h : Q (.ref s.heap.objs.size) { s with heap := s.heap.push { cls := .type "tuple", data := .seq zs.toArray } }) : wpAny (model prog w) A (getItem (.ref t) (.ref sl)) Q E s := by
  have hdrop : sizeOk (.seq zs.toArray) := by
    show zs.toArray.size ≤ sizeLine
    rw [List.size_toArray]; exact hz
  obtain ⟨os, hos, hcs, hds⟩ := id hs
  have hTs : s.TypeIs (.ref sl) "slice" := ⟨os, hos, hcs⟩
  unfold getItem
  try with_reducible refine wpAny_holding ?_
  first | refine wpAny_bind (wpAny_pure ?_) | skip
  refine wpAny_bind (wpAny_sequenceKey ht.typeIs (by decide) ?_)
  refine wpAny_bind (wpAny_callSpecial?_slot (name := Str.ofString "__getitem__") ht.typeIs slot_tuple_getitem (wpAny_call_entry slot_tuple_getitem ht.typeIs entry_tuple_getitem ?_ (args_tuple_getitem _ _)))
  show wpAny _ _ (Builtin.Tuple.tupleItemsOf (.ref t) >>= _) _ _ s
  refine wpAny_bind (tupleItemsOf_ ht ?_)
  refine wpAny_bind (wpAny_typeOf hTs ?_)
  rw [if_pos (by decide)]
  refine wpAny_bind (applied hs pl pu pk hk h0 e ?_)
  show wpAny _ _ (if (a == 0 && k == 1 && Builtin.Slice.slicePlaces a b k == items.size) = true then _ else _) _ _ s
  rw [hno, if_neg Bool.false_ne_true, ez]
  first
    | exact wpAny_bind (m := Builtin.Tuple.tupleExact _) (wpAny_newObj_type (wpAny_pure ⟨_, rfl, wpAny_pure h⟩) hdrop)
    | exact wpAny_bind (m := Builtin.Tuple.tupleExact _) (wpAny_newObj_type (wpAny_bind (wpAny_pure (wpAny_pure ⟨_, rfl, wpAny_pure h⟩))) hdrop)
    | exact wpAny_bind (wpAny_bind (m := Builtin.Tuple.tupleExact _) (wpAny_newObj_type (wpAny_pure (wpAny_pure ⟨_, rfl, wpAny_pure h⟩)) hdrop))
    | exact wpAny_bind (wpAny_bind (m := Builtin.Tuple.tupleExact _) (wpAny_newObj_type (wpAny_pure ⟨_, rfl, wpAny_pure h⟩) hdrop))
variable {g : Heap} {L : Nat} {m : Str → Option Value} {led : List (Addr × Obj)}
theorem slice_tup {value slice : Expr} {t : Nat} {items : Array Value} {vl vu vk : Value} {lo hi st : Option Int} {a b k : Int} {zs : List Value} {ops : List Value} {Q : Value → Shared → Prop} (F : Fr g L s.heap m) (N : News g L s.heap led) (ht : IsTup s.heap t items) (pl : Part vl lo) (pu : Part vu hi) (pk : Part vk st) (hk : st.getD 1 = k) (h0 : k ≠ 0)
    (e : Builtin.Slice.sliceAdjust lo hi k (items.size : Int) = (a, b)) (hno : (a == 0 && k == 1 && Builtin.Slice.slicePlaces a b k == items.size) = false)
    (ez : (List.range (Builtin.Slice.slicePlaces a b k)).filterMap (fun (j : Nat) => items[(a + (j : Int) * k).toNat]?) = zs) (hz : zs.length ≤ sizeLine)
    (h : ∀ D' h', Fr g L h' m → News g L h' ((D', tupOf zs 0) :: led) → (∀ p ∈ led, p.1 < D') → L < D' → Q (.ref D') { s with heap := h' })
    (hs : subscripted slice false (.ref t) (.ref s.heap.objs.size) = operate ops (getItem (.ref t) (.ref s.heap.objs.size)))
    (hg : ∀ r, letTemporaryGo value (.ref t) r = pure ()) :
    wpAny (model prog w) A (subscriptTail value slice (.ref t) (.ref s.heap.objs.size)) Q E { s with heap := s.heap.push { cls := .type "slice", data := .fields #[vl, vu, vk] } } := by
  have ht' : IsTup (s.heap.push { cls := .type "slice", data := .fields #[vl, vu, vk] }) t items := ht.keeps fun _ _ e => Heap.get?_push_of_some _ e
  have hL : L < s.heap.objs.size := F.ns.lt
  refine subscriptTail_ops (s := { s with heap := s.heap.push { cls := .type "slice", data := .fields #[vl, vu, vk] } }) ht'.typeIs slot_tuple_getitem.lookup
    (getItem_slice ht' (Heap.IsSliceOf.new ..) pl pu pk hk h0 e hno ez hz ?_) hs hg
  have N1 := News.push (F.push { cls := .type "slice", data := .fields #[vl, vu, vk] }) (N.grown fun _ _ e => Heap.get?_push_of_some _ e) { cls := .type "tuple", data := .seq zs.toArray }
  exact h _ _ ((F.push _).push _) N1 (fun p hp => by rw [Heap.size_push]; exact Nat.lt_succ_of_lt (Heap.lt_size (N p hp).1)) (by rw [Heap.size_push]; exact Nat.lt_succ_of_lt hL)
end
theorem rev_adjust (n : Nat) : Builtin.Slice.sliceAdjust none none (-1) (n : Int) = ((n : Int) - 1, -1) := by
  unfold Builtin.Slice.sliceAdjust
  simp
theorem rev_places (n : Nat) : Builtin.Slice.slicePlaces ((n : Int) - 1) (-1) (-1) = n := by
  unfold Builtin.Slice.slicePlaces
  have h1 : ¬ ((-1 : Int) > 0) := by lia
  have h2 : (-(-1) : Int) = 1 := rfl
  simp only [h1, if_false, h2, Int.ediv_one]
  split <;> lia
theorem fm_congr {α β : Type} {f g : α → Option β} : ∀ {l : List α}, (∀ a ∈ l, f a = g a) → l.filterMap f = l.filterMap g
  | [], _ => rfl
  | x :: r, h => by
    have ih := fm_congr (l := r) fun a ha => h a (List.mem_cons_of_mem _ ha)
    rw [List.filterMap_cons, List.filterMap_cons, h x (List.mem_cons_self), ih]
theorem rev_pick (xs : List Value) : (List.range xs.length).filterMap (fun (j : Nat) => xs.toArray[((xs.length : Int) - 1 + (j : Int) * (-1)).toNat]?) = xs.reverse := by
  have e : ∀ j ∈ List.range xs.length, xs.toArray[((xs.length : Int) - 1 + (j : Int) * (-1)).toNat]? = xs.reverse.toArray[j]? := fun j hj => by
    have hj := List.mem_range.mp hj
    have : ((xs.length : Int) - 1 + (j : Int) * (-1)).toNat = xs.length - 1 - j := by lia
    rw [this, List.getElem?_toArray, List.getElem?_toArray, List.getElem?_reverse hj]
  rw [fm_congr e]
  have := krv_all xs.reverse.toArray
  rw [List.size_toArray, List.length_reverse] at this
  exact this
section
variable {prog : Program} {w : World} {A : Around} {E : Value → Shared → Prop} {s : Shared} {g h₀ : Heap} {L t n i : Nat} {m : Str → Option Value} {led : List (Addr × Obj)} {value slice : Expr} {ops : List Value} {Q : Value → Shared → Prop} {v0 v1 v2 v3 v4 v5 : Value} {u : Tok}
theorem slice6 (F : Fr g L h₀ m) (N : News g L h₀ led) (hg : g.get? t = some (tupOf [v0, v1, v2, v3, v4, v5] n)) (h : ∀ D' h', Fr g L h' m → News g L h' ((D', tupOf [v0, v1, v2, v3, v4] 0) :: led) → (∀ p ∈ led, p.1 < D') → L < D' → Q (.ref D') { s with heap := h' })
    (hs : ∀ x, subscripted slice false (.ref t) (.ref x) = operate [.ref x, .ref t] (getItem (.ref t) (.ref x))) (hgo : ∀ r, letTemporaryGo value (.ref t) r = pure ()) :
    wpAny (model prog w) A (subscriptTail value slice (.ref t) (.ref h₀.objs.size)) Q E { s with heap := h₀.push { cls := .type "slice", data := .fields #[.none, .int (-1) u, .none] } } :=
  slice_tup (s := { s with heap := h₀ }) (a := 0) (b := 5) (k := 1) (zs := [v0, v1, v2, v3, v4]) F N ⟨_, F.keep _ _ hg, rfl, _, rfl⟩ .none (.int (-1) u) .none rfl (by decide) rfl rfl rfl (by have : sizeLine = 2 ^ 24 := rfl; simp only [List.length_cons, List.length_nil]; lia) h (hs _) hgo
theorem slice4 (F : Fr g L h₀ m) (N : News g L h₀ led) (hg : g.get? t = some (tupOf [v0, v1, v2, v3] n)) (h : ∀ D' h', Fr g L h' m → News g L h' ((D', tupOf [v0, v1, v2] 0) :: led) → (∀ p ∈ led, p.1 < D') → L < D' → Q (.ref D') { s with heap := h' })
    (hs : ∀ x, subscripted slice false (.ref t) (.ref x) = operate [.ref x, .ref t] (getItem (.ref t) (.ref x))) (hgo : ∀ r, letTemporaryGo value (.ref t) r = pure ()) :
    wpAny (model prog w) A (subscriptTail value slice (.ref t) (.ref h₀.objs.size)) Q E { s with heap := h₀.push { cls := .type "slice", data := .fields #[.none, .int (-1) u, .none] } } :=
  slice_tup (s := { s with heap := h₀ }) (a := 0) (b := 3) (k := 1) (zs := [v0, v1, v2]) F N ⟨_, F.keep _ _ hg, rfl, _, rfl⟩ .none (.int (-1) u) .none rfl (by decide) rfl rfl rfl (by have : sizeLine = 2 ^ 24 := rfl; simp only [List.length_cons, List.length_nil]; lia) h (hs _) hgo
theorem slice_rev {vs : List Value} (F : Fr g L h₀ m) (N : News g L h₀ led) (hg : IsTup h₀ t vs.toArray) (hz : vs.length ≤ sizeLine) (h : ∀ D' h', Fr g L h' m → News g L h' ((D', tupOf vs.reverse 0) :: led) → (∀ p ∈ led, p.1 < D') → L < D' → Q (.ref D') { s with heap := h' })
    (hs : ∀ x, subscripted slice false (.ref t) (.ref x) = operate [.ref x, .ref t] (getItem (.ref t) (.ref x))) (hgo : ∀ r, letTemporaryGo value (.ref t) r = pure ()) :
    wpAny (model prog w) A (subscriptTail value slice (.ref t) (.ref h₀.objs.size)) Q E { s with heap := h₀.push { cls := .type "slice", data := .fields #[.none, .none, .int (-1) u] } } :=
  slice_tup (s := { s with heap := h₀ }) (a := (vs.length : Int) - 1) (b := -1) (k := -1) (zs := vs.reverse) F N hg .none .none (.int (-1) u) rfl (by decide) (by rw [List.size_toArray]; exact rev_adjust _) (by rw [show ((-1 : Int) == 1) = false from rfl, Bool.and_false, Bool.false_and]) (by rw [rev_places]; exact rev_pick vs) (by rw [List.length_reverse]; exact hz) h (hs _) hgo
end
noncomputable def St.bodies : St → List (List St)
  | .mv _ _ => []
  | .iff _ _ x y => [x, y]
  | .ev _ x y z => [x, y, z]
  | .pf _ _ _ x => [x]
  | .br _ _ x y => [x, y]
/-- the statement with other things for its bodies -/
noncomputable def St.exch (m : Str) (f : List St → D) : St → D
  | .mv a b => St.toD m (.mv a b)
  | .iff a b x y => .tup [sS "if", .tup [sS "not", .tup [sS "rel", sS "=", a.toD m, b.toD m]], f x, f y]
  | .ev a x y z => .tup [sS "evaluate", .tup [.tup [sS "worth", a.toD m]],
      .tup [.tup [.tup [.tup [.tup [sS "any"]]], f x], .tup [.tup [.tup [.tup [sS "is", .tup [sS "text", refB], .bool true]]], f y]], f z]
  | .pf a b c x => .tup [sS "perform", .tup [sS "body", f x], .tup [sS "varying", .bool false, .tup [.tup [a.toD m, numD 1, b.toD m, .tup [sS "named", c.toD m]]]]]
  | .br k a x y => .tup (brHead k m a ++ [.tup [.tup [sS "end", f x], .tup [sS "not end", f y]]])
/-- a state's laws: it is of the objects told; and its objects stand, no tuples -/
structure ChgS (Ms : List Nat) (S : (Addr → Obj → Prop) → List D → Prop) : Prop where
  mono : ∀ {V V' l}, Sub V V' → S V l → S V' l
  has : ∀ {V l}, S V l → ∀ a ∈ Ms, ∃ o, V a o ∧ o.cls ≠ .type "tuple"
/-- what a call of c on a thing of α does: the state grows by e, the value is f -/
noncomputable def ChgSpec {α : Type} (prog : Program) (w : World) (c : Nat) (Ms : List Nat) (S : (Addr → Obj → Prop) → List D → Prop) (ok : α → Prop) (δ f : α → D) (e : α → List D) (K U : Nat) : Prop :=
  ∀ {A : Around} {s : Shared} {G : Heap} {R : Result → Shared → Prop} {v : Value} {x : α} {l : List D} {V : Addr → Obj → Prop}, ok x → Base w G → G.StaysIn s.heap → (∀ a ∈ Ms, G.get? a = none) → Sub V (Hv s.heap) → S V l → Dv V v (δ x) → l.length + (e x).length ≤ 1000 →
    A.handled = none → A.depth + K < 800 → A.units + U < 4500 →
    (∀ h' tk' r, Kp Ms s.heap h' → S (Aft V Ms s.heap h') (l ++ e x) → Dv (Aft V Ms s.heap h') r (f x) → R (.ok (.ret r)) { s with heap := h', toks := tk' }) →
    codeAny (model prog w) A (.call (.ref c) ⟨[v], []⟩) R s
section
variable {prog : Program} {w : World} {A : Around} {E : Value → Shared → Prop} {s : Shared} {g h₀ : Heap} {L : Nat} {m : Str → Option Value} {led led₀ mo im rest : List (Addr × Obj)} {Ms : List Nat} {V : Addr → Obj → Prop} {S : (Addr → Obj → Prop) → List D → Prop}
/-- tuples are told apart from what changes -/
theorem dv_im {v : Value} {d : D} {imm : List (Addr × Obj)} {h : Heap} (N : News g L h led) (hm : ∀ p ∈ mo, p ∈ led) (hc : ∀ p ∈ mo, p.2.cls ≠ .type "tuple") (x : Dv (Vv V Ms (mo ++ imm)) v d) : Dv (Vv V Ms imm) v d :=
  x.mono fun a vs n q => q.imp (fun q => q) fun q => (List.mem_append.mp q).elim (fun q => absurd rfl (hc _ q)) id
theorem mo_cls {l : List D} {imm : List (Addr × Obj)} {h : Heap} (HS : ChgS Ms S) (N : News g L h led) (hmo : ∀ p ∈ mo, p.1 ∈ Ms) (hm : ∀ p ∈ mo ++ imm, p ∈ led) (x : S (Vv V Ms (mo ++ imm)) l) : ∀ p ∈ mo, p.2.cls ≠ .type "tuple" := fun p hp => by
  obtain ⟨o, y, n⟩ := HS.has x p.1 (hmo p hp)
  rcases y with y | y
  · exact absurd (hmo p hp) y.2
  · have e1 := (N _ (hm _ y)).1
    rw [(N p (hm p (List.mem_append_left _ hp))).1] at e1
    cases e1; exact n
theorem call_chg {α : Type} {c : Nat} {ok : α → Prop} {δ f : α → D} {e : α → List D} {K U : Nat} {l : List D} {v : Value} {x : α} {Q : Value → Shared → Prop} (C : ChgSpec prog w c Ms S ok δ f e K U) (HS : ChgS Ms S) (hx : ok x) (B : Base w g) (F : Fr g L s.heap m) (N : News g L s.heap led)
    (hg1 : ∀ b o, h₀.get? b = some o → b ∉ led₀.map (·.1) → g.get? b = some o) (hV : Sub V (Hv h₀)) (hl₀ : ∀ a ∈ led₀.map (·.1), a ∈ Ms) (hS : S (Vv V Ms (mo ++ im)) l) (hd : Dv (Vv V Ms im) v (δ x)) (hbd : l.length + (e x).length ≤ 1000)
    (hc : Cov Ms mo) (hmo : ∀ p ∈ mo, p.1 ∈ Ms) (hml : ∀ p ∈ mo, p ∈ led) (hr : RestV Ms led rest) (him : ∀ p ∈ im, p ∈ rest) (hA : A.handled = none) (hdp : A.depth + K < 800) (hu : A.units + U < 4500)
    (h : ∀ h' tk' r mo' nw, Fr g L h' m → News g L h' (mo' ++ (rest ++ nw)) → Cov Ms mo' → (∀ p ∈ mo', p.1 ∈ Ms) → (∀ p ∈ nw, ∀ q ∈ led, p.1 ≠ q.1) → (∀ p ∈ nw, p.1 ∉ Ms) → S (Vv V Ms (mo' ++ (im ++ nw))) (l ++ e x) → Dv (Vv V Ms (im ++ nw)) r (f x) → Q r { s with heap := h', toks := tk' }) :
    wpAny (model prog w) A (call (.ref c) [v]) Q E s := by
  have hM : ∀ a ∈ Ms, ∃ o, (a, o) ∈ led := fun a ha => let ⟨o, ho⟩ := hc a ha; ⟨o, hml _ ho⟩
  have hil : ∀ p ∈ im, p ∈ led := fun p hp => (hr.mem (fun _ h => h) p (him p hp)).1
  have hall : ∀ p ∈ mo ++ im, p ∈ led := List.forall_mem_append.mpr ⟨hml, hil⟩
  refine wpAny_call (C hx B F.keep (fun a ha => let ⟨o, ho⟩ := hM a ha; (N _ ho).2.2) (vv_hv hg1 F N hV hl₀ hall) hS (hd.sub (vv_sub fun p hp => List.mem_append_right _ hp)) hbd hA hdp hu fun h' tk' r k S' d' => ?_)
  obtain ⟨mo', nw, F', N', hmo', lo, off, _, sub⟩ := back3 (V := V) F N k hM hr hmo him
  have S2 := HS.mono sub S'
  have hin : ∀ p ∈ mo' ++ (im ++ nw), p ∈ mo' ++ (rest ++ nw) := fun p hp => by
    simp only [List.mem_append] at hp ⊢
    rcases hp with hp | hp | hp
    · exact .inl hp
    · exact .inr (.inl (him p hp))
    · exact .inr (.inr hp)
  refine h h' tk' r mo' nw F' N' (fun a ha => ?_) hmo' lo off S2 ?_
  · obtain ⟨o, y, _⟩ := HS.has S2 a ha
    rcases y with y | y
    · exact absurd ha y.2
    · refine ⟨o, (List.mem_append.mp y).resolve_right fun y => ?_⟩
      rcases List.mem_append.mp y with y | y
      · exact (hr.mem (fun _ h => h) _ (him _ y)).2 ha
      · exact off _ y ha
  · exact dv_im N' (fun p hp => List.mem_append_left _ hp) (mo_cls HS N' hmo' hin S2) (d'.sub sub)
theorem lt_off {b : Nat} {M : Nat} (h : ∀ a ∈ Ms, a < M) (hb : M ≤ b) : b ∉ Ms := fun q => Nat.lt_irrefl _ (Nat.lt_of_lt_of_le (h _ q) hb)
end
noncomputable def ExchSpec (prog : Program) (w : World) (c : Nat) (mk : Str) (Ms : List Nat) (S : (Addr → Obj → Prop) → List D → Prop) (f : List St → D) (e : List St → List D) (K U : Nat) (st : St) : Prop :=
  ∀ {A : Around} {s : Shared} {G : Heap} {R : Result → Shared → Prop} {v : Value} {l : List D} {V : Addr → Obj → Prop}, Base w G → G.StaysIn s.heap → (∀ a ∈ Ms, G.get? a = none) → Sub V (Hv s.heap) → S V l → Dv V v (st.toD mk) → l.length + (st.bodies.flatMap e).length ≤ 1000 → c ∉ Ms → (∃ oc od fd sl, V c ⟨oc, od, .func fd, sl⟩) →
    A.handled = none → A.depth + K < 800 → A.units + U < 4500 →
    (∀ h' tk' r, Kp Ms s.heap h' → S (Aft V Ms s.heap h') (l ++ st.bodies.flatMap e) → Dv (Aft V Ms s.heap h') r (st.exch mk f) → R (.ok (.ret r)) { s with heap := h', toks := tk' }) →
    codeAny (model prog w) A (.call (.ref 25) ⟨[v, .ref c], []⟩) R s
/-- the exchange of the bodies of pairs: i of them done -/
noncomputable def ExInv (Ms : List Nat) (S : (Addr → Obj → Prop) → List D → Prop) (V : Addr → Obj → Prop) (l : List D) (f : List St → D) (e : List St → List D) (src : List (D × List St)) (cl : Nat) (oc : Obj) (nw0 : List (Addr × Obj)) (i : Nat) (ys : List Value) (news : List (Addr × Obj)) : Prop :=
  ∃ mo nw, news = mo ++ ((cl, oc) :: (nw0 ++ nw)) ∧ Cov Ms mo ∧ (∀ p ∈ mo, p.1 ∈ Ms) ∧ (∀ p ∈ nw0 ++ nw, p.1 ∉ Ms) ∧ S (Vv V Ms (mo ++ (nw0 ++ nw))) (l ++ (src.take i).flatMap (fun z => e z.2)) ∧ Dvs (Vv V Ms (nw0 ++ nw)) ys ((src.take i).map (fun z => .tup [z.1, f z.2]))
/-- the end of one of its turns -/
noncomputable def ExTurn (g : Heap) (L : Nat) (m : Str → Option Value) (s : Shared) (I : Addr) (oI : Obj) (C : Addr) (oC : Obj) (D' : Addr) (oD : Obj) (Ms : List Nat) (S : (Addr → Obj → Prop) → List D → Prop) (V : Addr → Obj → Prop) (l' : List D) (ex : List D) (d : D) (cl : Nat) (oc : Obj) (nw : List (Addr × Obj)) (y : Value) (s' : Shared) : Prop :=
  ∃ h' tk' mo' nw', s' = { s with heap := h', toks := tk' } ∧ Fr g L h' m ∧ News g L h' ((I, oI) :: (C, oC) :: (D', oD) :: (mo' ++ ((cl, oc) :: (nw ++ nw')))) ∧ (∀ p ∈ nw', p.1 ≠ I ∧ p.1 ≠ C ∧ p.1 ≠ D') ∧ Cov Ms mo' ∧ (∀ p ∈ mo', p.1 ∈ Ms) ∧ (∀ p ∈ nw', p.1 ∉ Ms) ∧
    S (Vv V Ms (mo' ++ (nw ++ nw'))) (l' ++ ex) ∧ Dv (Vv V Ms (nw ++ nw')) y d
theorem off_ms {I C D' : Addr} {Ms : List Nat} {mo news : List (Addr × Obj)} (off : LCg.Off3 I C D' news) (h : ∀ p ∈ mo, p ∈ news) (hc : Cov Ms mo) : I ∉ Ms ∧ C ∉ Ms ∧ D' ∉ Ms :=
  ⟨fun q => let ⟨o, ho⟩ := hc _ q; (off.mem _ (h _ ho)).1 rfl, fun q => let ⟨o, ho⟩ := hc _ q; (off.mem _ (h _ ho)).2.1 rfl, fun q => let ⟨o, ho⟩ := hc _ q; (off.mem _ (h _ ho)).2.2 rfl⟩
inductive DvB2 (P : Addr → Obj → Prop) (a b : D) : List Value → Prop
  | mk (v0 v1 : Value) (h0 : Dv P v0 a) (h1 : Dv P v1 b) : DvB2 P a b [v0, v1]
inductive DvB3 (P : Addr → Obj → Prop) (a b c : D) : List Value → Prop
  | mk (v0 v1 v2 : Value) (h0 : Dv P v0 a) (h1 : Dv P v1 b) (h2 : Dv P v2 c) : DvB3 P a b c [v0, v1, v2]
inductive DvB4 (P : Addr → Obj → Prop) (a b c d : D) : List Value → Prop
  | mk (v0 v1 v2 v3 : Value) (h0 : Dv P v0 a) (h1 : Dv P v1 b) (h2 : Dv P v2 c) (h3 : Dv P v3 d) : DvB4 P a b c d [v0, v1, v2, v3]
inductive DvB6 (P : Addr → Obj → Prop) (a b c d e f : D) : List Value → Prop
  | mk (v0 v1 v2 v3 v4 v5 : Value) (h0 : Dv P v0 a) (h1 : Dv P v1 b) (h2 : Dv P v2 c) (h3 : Dv P v3 d) (h4 : Dv P v4 e) (h5 : Dv P v5 f) : DvB6 P a b c d e f [v0, v1, v2, v3, v4, v5]
theorem dvs2 {P : Addr → Obj → Prop} {vs : List Value} {a b : D} (x : Dvs P vs [a, b]) : DvB2 P a b vs := by
  obtain ⟨v0, r0, h0, y⟩ : ConsI P a [b] vs := x.inv
  obtain ⟨v1, r1, h1, z⟩ : ConsI P b [] r0 := y.inv
  obtain rfl : r1 = [] := z.inv
  exact ⟨v0, v1, h0, h1⟩
theorem dvs3 {P : Addr → Obj → Prop} {vs : List Value} {a b c : D} (x : Dvs P vs [a, b, c]) : DvB3 P a b c vs := by
  obtain ⟨v0, r0, h0, y⟩ : ConsI P a [b, c] vs := x.inv
  obtain ⟨v1, v2, h1, h2⟩ := dvs2 y
  exact ⟨v0, v1, v2, h0, h1, h2⟩
theorem dvs4 {P : Addr → Obj → Prop} {vs : List Value} {a b c d : D} (x : Dvs P vs [a, b, c, d]) : DvB4 P a b c d vs := by
  obtain ⟨v0, r0, h0, y⟩ : ConsI P a [b, c, d] vs := x.inv
  obtain ⟨v1, v2, v3, h1, h2, h3⟩ := dvs3 y
  exact ⟨v0, v1, v2, v3, h0, h1, h2, h3⟩
theorem dvs6 {P : Addr → Obj → Prop} {vs : List Value} {a b c d e f : D} (x : Dvs P vs [a, b, c, d, e, f]) : DvB6 P a b c d e f vs := by
  obtain ⟨v0, r0, h0, y⟩ : ConsI P a [b, c, d, e, f] vs := x.inv
  obtain ⟨v1, r1, h1, z⟩ : ConsI P b [c, d, e, f] r0 := y.inv
  obtain ⟨v2, v3, v4, v5, h2, h3, h4, h5⟩ := dvs4 z
  exact ⟨v0, v1, v2, v3, v4, v5, h0, h1, h2, h3, h4, h5⟩
theorem dvt {P : Addr → Obj → Prop} {v : Value} {ds : List D} (x : Dv P v (.tup ds)) : DvTup P ds v := x.inv
theorem dvstr {P : Addr → Obj → Prop} {v : Value} {x : Str} (h : Dv P v (.str x)) : ∃ t, v = .str x t := h.inv
section
variable {prog : Program} {w : World} {A : Around} {E : Value → Shared → Prop} {s : Shared} {g : Heap} {L a n u j : Nat} {m : Str → Option Value} {vs : List Value} {k : Int} {x : Value} {value slice : Expr} {Q : Value → Shared → Prop}
theorem sub_g (F : Fr g L s.heap m) (hg : g.get? a = some (tupOf vs n)) (hlo : -(2 ^ 63) ≤ k) (hhi : k < 2 ^ 63) (hj : seqIndex? k vs.length = some j) (hx : vs[j]? = some x) (h : Q x s)
    (hs : subscripted slice false (.ref a) (.int k u) = operate [.ref a, .int k u] (getItem (.ref a) (.int k u))) : wpAny (model prog w) A (subscriptTail value slice (.ref a) (.int k u)) Q E s :=
  item_tupleT ⟨_, F.keep _ _ hg, rfl, _, rfl⟩ hlo hhi hj hx h hs
theorem up0 {V : Addr → Obj → Prop} {Ms : List Nat} {im : List (Addr × Obj)} {v : Value} {d : D} (x : Dv (Vv V Ms []) v d) : Dv (Vv V Ms im) v d := x.sub (vv_sub fun _ h => nomatch h)
theorem fn_g {c : Nat} {h : Heap} (F : Fr g L h m) (hc : FnAt c g) : FnAt c h := let ⟨a, b, d, e, q⟩ := hc; ⟨a, b, d, e, F.keep _ _ q⟩
theorem off_new {Ms : List Nat} {b : Nat} {mo : List (Addr × Obj)} (h : Cov Ms mo) (l : AllLt b mo) : b ∉ Ms := fun q => by
  obtain ⟨o, ho⟩ := h _ q
  have key : ∀ {mo : List (Addr × Obj)}, AllLt b mo → ∀ p ∈ mo, (@LT.lt Nat _ p.1 b) := fun {mo} => by
    induction mo with
    | nil => exact fun _ _ h => nomatch h
    | cons x r ih =>
      intro l p hp
      rcases List.mem_cons.mp hp with rfl | hp
      · exact l.1
      · exact ih l.2 p hp
  exact Nat.lt_irrefl _ (key l _ ho)
theorem in_K {K : Frag} {l : List Value} {dd : Option Addr} {sl : Array (Option Value)} {ys : List Str} {x : Str} {b : Bool} (F : Fr g L s.heap m) (X : K.In g) (hl : K.lookup a = some ⟨.type "tuple", dd, .seq l.toArray n, sl⟩) (hi : StrsAre l ys) (hb : ys.any (· == x) = b) (h : Q (.bool b) s) :
    wpAny (model prog w) A (compareOp .In (.str x u) (.ref a)) Q E s :=
  in_tuple_strs (tupK (X.keeps F.keep) hl) (by simpa using hi) (by rw [hb]; exact h)
theorem notin_K {K : Frag} {l : List Value} {dd : Option Addr} {sl : Array (Option Value)} {ys : List Str} {x : Str} {b : Bool} (F : Fr g L s.heap m) (X : K.In g) (hl : K.lookup a = some ⟨.type "tuple", dd, .seq l.toArray n, sl⟩) (hi : StrsAre l ys) (hb : (!(ys.any (· == x))) = b) (h : Q (.bool b) s) :
    wpAny (model prog w) A (compareOp .NotIn (.str x u) (.ref a)) Q E s :=
  notin_tuple_strs (tupK (X.keeps F.keep) hl) (by simpa using hi) (by rw [hb]; exact h)
theorem exch_pairs {env : Env} {elt : Expr} {xn yn : Str} {scope : Scope} {cl : List (Str × Addr)} {ws : List Value} {wv nn cl₀ : Nat} {o1 : Obj} {mo : List (Addr × Obj)} {Ms : List Nat} {S : (Addr → Obj → Prop) → List D → Prop} {V : Addr → Obj → Prop} {l : List D} {f : List St → D} {e : List St → List D} {mk : Str} {ok : List St → Prop} {src : List (D × List St)}
    (nw0 : List (Addr × Obj)) (hbd : l.length + (src.flatMap fun z => e z.2).length ≤ 1000) (HS : ChgS Ms S) (F : Fr g L s.heap m) (N : News g L s.heap led) (hsub : ∀ p ∈ mo ++ ((cl₀, o1) :: nw0), p ∈ led) (h0 : ∀ p ∈ nw0, p.1 ∉ Ms) (ht : g.get? wv = some (tupOf ws nn)) (hcov : Cov Ms mo) (hmM : ∀ p ∈ mo, p.1 ∈ Ms) (hcb : cl₀ ∉ Ms) (hS : S (Vv V Ms (mo ++ nw0)) l) (hlen : ws.length = src.length) (hsz : ws.length ≤ 1000)
    (hws : ∀ (i : Nat) v, ws[i]? = some v → ∃ t v₁ v₂ d x, v = Value.ref t ∧ g.IsTuple t #[v₁, v₂] ∧ src[i]? = some (d, x) ∧ Dv (Vv V Ms []) v₁ d ∧ Dv (Vv V Ms []) v₂ (.tup (toDs mk x)) ∧ ok x)
    (fin : ∀ s₂ : Shared, (∃ h, s₂ = { s with heap := h }) → ∀ ys mo nw D' h tk, Fr g L h m → News g L h ((D', LCg.lst ys) :: (mo ++ ((cl₀, o1) :: (nw0 ++ nw)))) → D' ∉ Ms → Cov Ms mo → (∀ p ∈ mo, p.1 ∈ Ms) → (∀ p ∈ nw0 ++ nw, p.1 ∉ Ms) → S (Vv V Ms (mo ++ (nw0 ++ nw))) (l ++ src.flatMap fun z => e z.2) →
      Dvs (Vv V Ms (nw0 ++ nw)) ys (src.map fun z => .tup [z.1, f z.2]) → Q (.ref D') { s₂ with heap := h, toks := tk })
    (turn : ∀ s₂ : Shared, (∃ h, s₂ = { s with heap := h }) → ∀ v₁ v₂ d x ys l' mo nw I oI C oC D' m₂ h tk (E' : Value → Shared → Prop), Dv (Vv V Ms []) v₁ d → Dv (Vv V Ms []) v₂ (.tup (toDs mk x)) → ok x → LCg.NsObj oC m₂ → m₂ xn = some v₁ → m₂ yn = some v₂ → Fr g L h m →
      News g L h ((I, oI) :: (C, oC) :: (D', LCg.lst ys) :: (mo ++ ((cl₀, o1) :: nw))) → I ∉ Ms → C ∉ Ms → D' ∉ Ms → ((@Ne Nat I C) ∧ (@Ne Nat I D') ∧ (@Ne Nat C D')) → Cov Ms mo → (∀ p ∈ mo, p.1 ∈ Ms) → (∀ p ∈ nw, p.1 ∉ Ms) → S (Vv V Ms (mo ++ nw)) l' → l'.length + (e x).length ≤ 1000 →
      wpAny (model prog w) A (eval elt (compEnvC scope cl C env)) (ExTurn g L m { s₂ with heap := h, toks := tk } I oI C oC D' (LCg.lst ys) Ms S V l' (e x) (.tup [d, f x]) cl₀ o1 nw) E' { s₂ with heap := h, toks := tk }) :
    PairSrc prog w A g L m env elt xn yn scope cl Q (.ref wv) s := by
  refine ⟨ws.toArray, ExInv Ms S V l f e src cl₀ o1 nw0, wv, mo ++ ((cl₀, o1) :: nw0), rfl, F, fun p hp => N p (hsub p hp), ⟨_, ht, rfl, _, rfl⟩, ?_, ⟨mo, [], by rw [List.append_nil], hcov, hmM, by rw [List.append_nil]; exact h0, by simpa using hS, by simpa using .nil⟩, fun i v hv => ?_, fun s₂ hs₂ => ⟨fun ys news hI => ?_, ?_⟩⟩
  · have : sizeLine = 2 ^ 24 := rfl
    rw [List.size_toArray]; lia
  · obtain ⟨t, v₁, v₂, d, x, a, b, _⟩ := hws i v (by simpa using hv)
    exact ⟨t, v₁, v₂, a, b⟩
  · obtain ⟨mo', nw, rfl, c1, c2, c3, hS', dy⟩ := hI
    rw [List.size_toArray, hlen, List.take_length] at hS' dy
    intro D' h tk F' N' o1'
    refine fin s₂ hs₂ ys mo' nw D' h tk F' N' (fun q => ?_) c1 c2 c3 hS' dy
    obtain ⟨o, ho⟩ := c1 _ q
    have key : ∀ {l : List (Addr × Obj)}, LCg.Off1 D' l → ∀ p ∈ l, p.1 ≠ D' := fun {l} => by
      induction l with
      | nil => exact fun _ _ h => nomatch h
      | cons x r ih =>
        intro z p hp
        rcases List.mem_cons.mp hp with rfl | hp
        · exact z.1
        · exact ih z.2 p hp
    exact key o1' _ (List.mem_append_left _ ho) rfl
  · intro i ys news hI t v₁ v₂ I oI C oC D' m₂ h tk E' hv htup hC hx hy F' N' off ne
    obtain ⟨mo', nw, rfl, c1, c2, c3, hS', dy⟩ := hI
    obtain ⟨t', u₁, u₂, d, x, e1, b, hs, d1, d2, hok⟩ := hws i _ (by simpa using hv)
    cases e1
    obtain ⟨ob, z1, _, nb, z2⟩ := b
    obtain ⟨ob', z1', _, nb', z2'⟩ := htup
    rw [z1] at z1'; cases z1'
    rw [z2] at z2'
    injection z2' with z3 _
    injection z3 with z3
    injection z3 with z4 z3
    injection z3 with z5 _
    subst z4 z5
    have hb9 : (l ++ (src.take i).flatMap fun z => e z.2).length + (e x).length ≤ 1000 := by
      have tk : src.take (i + 1) = src.take i ++ [(d, x)] := by
        rw [List.take_add_one, hs]; rfl
      have h1 : ((src.take (i + 1)).flatMap fun z => e z.2).length ≤ (src.flatMap fun z => e z.2).length := by
        conv => rhs; rw [← List.take_append_drop (i + 1) src, List.flatMap_append, List.length_append]
        lia
      rw [tk, List.flatMap_append, List.length_append] at h1
      simp only [List.flatMap_cons, List.flatMap_nil, List.append_nil] at h1
      rw [List.length_append]; lia
    obtain ⟨i1, i2, i3⟩ := off_ms off (mo := mo') (fun p hp => List.mem_append_left _ hp) c1
    refine wpAny_mono (turn s₂ hs₂ _ _ d x ys _ mo' (nw0 ++ nw) I oI C oC D' m₂ h tk E' d1 d2 hok hC hx hy F' N' i1 i2 i3 ne c1 c2 c3 hS' hb9) (fun y s' q => ?_) fun _ _ e => e
    obtain ⟨h', tk', mo2, nw2, rfl, F2, N2, of2, k1, k2, k3, S2, dy2⟩ := q
    have tk : src.take (i + 1) = src.take i ++ [(d, x)] := by
      rw [List.take_add_one, hs]; rfl
    refine ⟨h', tk', mo2 ++ ((cl₀, o1) :: ((nw0 ++ nw) ++ nw2)), rfl, F2, N2, LCg.Off3.of fun p hp => ?_, trivial, mo2, nw ++ nw2, by rw [List.append_assoc nw0], k1, k2, by rw [← List.append_assoc]; exact List.forall_mem_append.mpr ⟨c3, k3⟩, ?_, ?_⟩
    · rcases List.mem_append.mp hp with hp | hp
      · exact ⟨fun q => i1 (q ▸ k2 p hp), fun q => i2 (q ▸ k2 p hp), fun q => i3 (q ▸ k2 p hp)⟩
      · rcases List.mem_cons.mp hp with rfl | hp
        · exact off.mem _ (List.mem_append_right _ (.head _))
        · rcases List.mem_append.mp hp with hp | hp
          · exact off.mem _ (List.mem_append_right _ (.tail _ hp))
          · exact of2 p hp
    · rw [tk, List.flatMap_append]
      simpa [List.append_assoc] using S2
    · rw [tk, List.map_append, ← List.append_assoc nw0]
      exact (dy.sub (vv_sub fun p hp => List.mem_append_left _ hp)).append (.one dy2)
theorem ex_turn_end {h' : Heap} {I C D' Dt cl₀ nn tk' : Nat} {oI oC oD o1 : Obj} {mo mo' nw nwc : List (Addr × Obj)} {Ms : List Nat} {S : (Addr → Obj → Prop) → List D → Prop} {V : Addr → Obj → Prop} {l' ex : List D} {v₁ r : Value} {a b : D} (HS : ChgS Ms S) (F : Fr g L h' m)
    (N : News g L h' ((Dt, tupOf [v₁, r] nn) :: (mo' ++ ((I, oI) :: (C, oC) :: (D', oD) :: (cl₀, o1) :: (nw ++ nwc))))) (l1 : ∀ p ∈ mo' ++ ((I, oI) :: (C, oC) :: (D', oD) :: (cl₀, o1) :: (nw ++ nwc)), p.1 < Dt)
    (lo : ∀ p ∈ nwc, ∀ q ∈ (I, oI) :: (C, oC) :: (D', oD) :: (mo ++ (cl₀, o1) :: nw), p.1 ≠ q.1) (hc : Cov Ms mo') (hm : ∀ p ∈ mo', p.1 ∈ Ms) (ho : ∀ p ∈ nwc, p.1 ∉ Ms) (hS : S (Vv V Ms (mo' ++ (nw ++ nwc))) (l' ++ ex)) (d1 : Dv (Vv V Ms []) v₁ a) (d2 : Dv (Vv V Ms (nw ++ nwc)) r b) :
    ExTurn g L m s I oI C oC D' oD Ms S V l' ex (.tup [a, b]) cl₀ o1 nw (.ref Dt) { s with heap := h', toks := tk' } := by
  have lt : ∀ p ∈ mo' ++ ((I, oI) :: (C, oC) :: (D', oD) :: (cl₀, o1) :: (nw ++ nwc)), p.1 ≠ Dt := fun p hp => Nat.ne_of_lt (l1 p hp)
  refine ⟨h', tk', mo', (Dt, tupOf [v₁, r] nn) :: nwc, rfl, F, fun p hp => N p ?_, List.forall_mem_cons.mpr ⟨⟨?_, ?_, ?_⟩, fun p hp => ⟨lo p hp (I, oI) (by simp), lo p hp (C, oC) (by simp), lo p hp (D', oD) (by simp)⟩⟩, hc, hm, List.forall_mem_cons.mpr ⟨fun q => ?_, ho⟩, HS.mono (vv_sub fun p hp => ?_) hS, ?_⟩
  · simp only [List.mem_cons, List.mem_append] at hp ⊢
    rcases hp with hp | hp | hp | hp | hp | hp | hp | hp <;> simp only [hp, true_or, or_true]
  · exact Ne.symm (lt (I, oI) (by simp))
  · exact Ne.symm (lt (C, oC) (by simp))
  · exact Ne.symm (lt (D', oD) (by simp))
  · obtain ⟨o, ho⟩ := hc _ q
    exact lt _ (List.mem_append_left _ ho) rfl
  · simp only [List.mem_cons, List.mem_append] at hp ⊢
    rcases hp with hp | hp | hp <;> simp only [hp, true_or, or_true]
  · refine .tup (n := nn) (.inr ?_) (.cons (up0 d1) (.cons (d2.sub (vv_sub fun p hp => ?_)) .nil))
    · simp
    · simp only [List.mem_cons, List.mem_append] at hp ⊢
      rcases hp with hp | hp <;> simp only [hp, true_or, or_true]
theorem allLt_left {b : Nat} : ∀ {mo r : List (Addr × Obj)}, AllLt b (mo ++ r) → AllLt b mo
  | [], _, _ => trivial
  | _ :: _, _, l => ⟨l.1, allLt_left l.2⟩
theorem off_app {Ms : List Nat} {b : Nat} {mo r : List (Addr × Obj)} (h : Cov Ms mo) (l : AllLt b (mo ++ r)) : b ∉ Ms := off_new h (allLt_left l)
theorem add_t {a b na nb : Nat} {vs ws : List Value} (F : Fr g L s.heap m) (N : News g L s.heap led) (ha : (a, tupOf vs na) ∈ led) (hb : (b, tupOf ws nb) ∈ led) (hv : vs ≠ []) (hw : ws ≠ []) (hz : vs.length + ws.length ≤ 1000)
    (h : ∀ D' h', Fr g L h' m → News g L h' ((D', tupOf (vs ++ ws) 0) :: led) → (∀ p ∈ led, p.1 < D') → Q (.ref D') { s with heap := h' }) : wpAny (model prog w) A (binaryOp .Add (.ref a) (.ref b)) Q E s :=
  add_tuples F N ⟨_, N.get ha, rfl, _, rfl⟩ ⟨_, N.get hb, rfl, _, rfl⟩ (fun q => absurd q hv) (fun _ q => absurd q hw) (fun _ _ h' F' N' => h _ h' F' N' fun p hp => Heap.lt_size (N p hp).1) (by have : sizeLine = 2 ^ 24 := rfl; lia)
end
/-- the table of codes at P: empty, or the one code made there -/
noncomputable def TabV (V : Addr → Obj → Prop) (P : Addr) (line col : Nat) (qual : Str) : Prop :=
  V P (tabObj #[]) ∨ ∃ c' oc vs t, V P (tabObj #[rawInt line, rawInt col, .ref c']) ∧ V c' oc ∧ oc.data = .fields vs ∧ vs[1]? = some (.str qual t)
theorem TabV.mono {V V' : Addr → Obj → Prop} {P : Addr} {line col : Nat} {qual : Str} (h : Sub V V') : TabV V P line col qual → TabV V' P line col qual := fun T => by
  rcases T with a | ⟨c', oc, vs, t, a, b, r⟩
  · exact .inl (h _ _ a)
  · exact .inr ⟨c', oc, vs, t, h _ _ a, h _ _ b, r⟩
theorem TabV.has {V : Addr → Obj → Prop} {P : Addr} {line col : Nat} {qual : Str} : TabV V P line col qual → ∃ ps, V P (tabObj ps) := fun T => by
  rcases T with a | ⟨c', oc, vs, t, a, r⟩
  · exact ⟨_, a⟩
  · exact ⟨_, a⟩
theorem tab_ne {ps : Array Value} : (tabObj ps).cls ≠ .type "tuple" := nofun
section
variable {prog : Program} {w : World} {A : Around} {s : Shared} {G : Heap} {R : Result → Shared → Prop}
/-- entering a def that was made in a body -/
theorem enterX {name qual : Str} {params : Arguments} {body : List Stmt} {scope : Scope} {cl : List (Str × Addr)} {dV kV doc pm cdv ct oc : Value} {an od : Option Addr} {osl : Array (Option Value)} {f : Addr} {args : Args} {binds : List (Str × Value)}
    (B : Base w G) (kp : G.StaysIn s.heap) (led : List (Addr × Obj)) (hl : ∀ p ∈ led, s.heap.get? p.1 = some p.2 ∧ G.get? p.1 = none)
    (ho : s.heap.get? f = some ⟨oc, od, .func (fnX name qual params body scope cl dV kV doc pm an cdv ct), osl⟩) (hcd : s.heap.CodeRec cdv qual) (hroom : A.depth < recursionLimit)
    (hbind : BindsTo s (fnX name qual params body scope cl dV kV doc pm an cdv ct) args binds) (hloc : ∀ y ∈ binds, scope.names.lookup y.1 = some .local)
    (hcell : ∀ x ∈ scope.names, x.2 ≠ .cell)
    (h : ∀ g h₁, (∀ b o, s.heap.get? b = some o → b ∉ led.map (·.1) → g.get? b = some o) → (∀ b o, g.get? b = some o → s.heap.get? b = some o) →
      Fr g s.heap.objs.size h₁ (fun y => binds.reverse.lookup y) → News g s.heap.objs.size h₁ led → Base w g → 
      wpAny (model prog w) (A.deeper (envX qual scope s.heap.objs.size f cdv cl)) (execs body (envX qual scope s.heap.objs.size f cdv cl))
        (fun fl s' => R (.ok (.ret (match fl with | .ret v => v | _ => .none))) s') (fun _ _ => False) { s with heap := h₁, toks := s.toks + binds.length })
    (hco : scope.isCoroutine = false := by rfl) (hgen : scope.isGenerator = false := by rfl) (hk : scope.kind = .function := by rfl) :
    codeAny (model prog w) A (.call (.ref f) args) R s := by
  obtain ⟨p, loose, mean, mg, mb, T⟩ := B.T
  have nm : ∀ b o, G.get? b = some o → b ∉ led.map (·.1) := fun b o e q => by
    obtain ⟨p, hp, rfl⟩ := List.mem_map.mp q
    rw [(hl p hp).2] at e; cases e
  have st : G.StaysIn (hideAll s.heap (led.map (·.1))) := fun b o e => hideAll_get _ (kp b o e) (nm b o e)
  refine codeAny_call_def (fd := fnX name qual params body scope cl dV kV doc pm an cdv ct) (body := body) (binds := binds) hroom ho rfl (T.nolimit.keeps kp) hcd rfl hbind hcell hloc (fun h₁ hns hk₁ => ?_) hco hgen hk
  refine wpAny_mono (h (hideAll s.heap (led.map (·.1))) h₁ (fun b o e nb => hideAll_get _ e nb) (fun b o e => of_hideAll _ e) ⟨hns, fun b o e => hk₁ b o (of_hideAll _ e), Nat.le_of_eq (hideAll_size _ _)⟩ ?_ (B.keeps st)) (fun _ _ y => y) (fun _ _ y => y.elim)
  · exact fun p hp => ⟨hk₁ _ _ (hl p hp).1, Nat.ne_of_lt (Heap.lt_size (hl p hp).1), hideAll_none _ (List.mem_map_of_mem hp)⟩
/-- entering a lambda -/
theorem enterE {name qual : Str} {params : Arguments} {body : Expr} {scope : Scope} {cl : List (Str × Addr)} {pm cdv ct oc : Value} {od : Option Addr} {osl : Array (Option Value)} {f : Addr} {args : Args} {binds : List (Str × Value)}
    (B : Base w G) (kp : G.StaysIn s.heap) (led : List (Addr × Obj)) (hl : ∀ p ∈ led, s.heap.get? p.1 = some p.2 ∧ G.get? p.1 = none)
    (ho : s.heap.get? f = some ⟨oc, od, .func (kla_fn name qual params body scope cl pm cdv ct), osl⟩) (hcd : s.heap.CodeRec cdv qual) (hroom : A.depth < recursionLimit)
    (hbind : bindArgs (kla_fn name qual params body scope cl pm cdv ct) args = pure binds) (hloc : ∀ y ∈ binds, scope.names.lookup y.1 = some .local)
    (hcell : ∀ x ∈ scope.names, x.2 ≠ .cell)
    (h : ∀ g h₁, (∀ b o, s.heap.get? b = some o → b ∉ led.map (·.1) → g.get? b = some o) → (∀ b o, g.get? b = some o → s.heap.get? b = some o) →
      Fr g s.heap.objs.size h₁ (fun y => binds.reverse.lookup y) → News g s.heap.objs.size h₁ led → Base w g → 
      wpAny (model prog w) (A.deeper (envX qual scope s.heap.objs.size f cdv cl)) (eval body (envX qual scope s.heap.objs.size f cdv cl))
        (fun v s' => R (.ok (.ret v)) s') (fun _ _ => False) { s with heap := h₁, toks := s.toks + binds.length })
    (hco : scope.isCoroutine = false := by rfl) (hgen : scope.isGenerator = false := by rfl) (hk : scope.kind = .function := by rfl) :
    codeAny (model prog w) A (.call (.ref f) args) R s := by
  obtain ⟨p, loose, mean, mg, mb, T⟩ := B.T
  have nm : ∀ b o, G.get? b = some o → b ∉ led.map (·.1) := fun b o e q => by
    obtain ⟨p, hp, rfl⟩ := List.mem_map.mp q
    rw [(hl p hp).2] at e; cases e
  have st : G.StaysIn (hideAll s.heap (led.map (·.1))) := fun b o e => hideAll_get _ (kp b o e) (nm b o e)
  refine kla_callFunE hroom ho rfl hco hgen rfl hcd ?_
  rw [hbind]
  refine wpAny_pure (wpAny_newFunctionEnv hcell hloc (fun h₁ hns hsb => ⟨((T.nolimit).keeps kp).fresh _ hsb, ?_⟩) hk)
  show codeAny _ _ (.expr body (envX qual scope s.heap.objs.size f cdv cl)) _ _
  have hk₁ : ∀ b o, s.heap.get? b = some o → h₁.get? b = some o := fun b o e => hsb.extBut b o (Nat.ne_of_lt (Heap.lt_size e)) (Heap.get?_push_of_some _ e)
  refine kla_codeExpr (wpAny_mono (h (hideAll s.heap (led.map (·.1))) h₁ (fun b o e nb => hideAll_get _ e nb) (fun b o e => of_hideAll _ e) ⟨hns, fun b o e => hk₁ b o (of_hideAll _ e), Nat.le_of_eq (hideAll_size _ _)⟩ ?_ (B.keeps st)) (fun _ _ y => y) (fun _ _ y => y.elim))
  exact fun p hp => ⟨hk₁ _ _ (hl p hp).1, Nat.ne_of_lt (Heap.lt_size (hl p hp).1), hideAll_none _ (List.mem_map_of_mem hp)⟩
end
section
variable {M : Model} {A : Around} {E : Value → Shared → Prop} {s : Shared} {h₀ : Heap} {L a : Addr} {m : Str → Option Value} {cn : Str} {cs : Scope} {ccd : Value} {cl : List (Str × Addr)} {x : Str} {pos : Pos} {v : Value} {Q : Value → Shared → Prop} {c : Addr} {o : Obj}
/-- a name of an outer def; its cell stands in the base -/
theorem nameX_Fg (F : Fr h₀ L s.heap m) (hc : cl.lookup x = some c) (hm : h₀.get? c = some o) (hd : o.data = .cell (some v)) (h : Q v s)
    (hk : cs.kind = .function := by rfl) (hx : (envX cn cs L a ccd cl).kindOf x = some .free := by rfl) (hb : (x == ("__debug__" : Str)) = false := by decide) (hn : (x == ("__classdict__" : Str)) = false := by decide) :
    wpAny M A (eval (.Name x pos) (envX cn cs L a ccd cl)) Q E s := wpAny_Name (wpAny_loadName_free hk hx hc ⟨o, F.keep _ _ hm, hd⟩ h hn) hb
end
theorem rulesOgExch : True := by
  w_top off
  k_with_none
  k_with "spliced" => ((with_reducible show wpAny _ _ (spliced (backTo _ (starEach (_ :: _) _))) _ _ _); k_dflt (refine' args_at ?ogF ?ogk ?ogv ?_; (case ogF => k_asm); (case ogk => rfl); (case ogv => rfl)); k_whole)
  k_with "eval Constant int" => refine int_at ?_
  k_with "eval Constant str" => refine str_at ?_
  k_with "eval Call" => (k_dflt (first | (refine' callK_at ?ogF ?ogX ?ogT ?oge ?ogf ?ogk ?ogg ?ogd ?ogv ?_; (case ogX => k_asm); (case ogT => k_asm); (case oge => k_is); (case ogf => k_is); (case ogg => rfl); (case ogd => rfl); (case ogF => k_asm); (case ogk => rfl); (case ogv => rfl); k_whole) | (refine' callB_at ?ogF ?ogX ?ogT ?oge ?ogb ?ogi ?ogn ?ogk ?ogg ?ogd ?ogv ?_; (case ogX => k_asm); (case ogT => k_asm); (case oge => k_is); (case ogb => boot_fast); (case ogi => rfl); (case ogn => decide); (case ogg => rfl); (case ogd => rfl); (case ogF => k_asm); (case ogk => rfl); (case ogv => rfl); k_whole)))
  k_with "eval Subscript" => (k_dflt (refine' sub_at ?ogF ?ogk ?ogv ?ogw ?_; (case ogF => k_asm); (case ogk => rfl); (case ogv => rfl); (case ogw => rfl)); k_whole)
  k_with "ite" => (k_closed; k_dflt (first | refine iteT rfl ?_ | refine iteF rfl ?_))
  k_with "isTrue Compare" => (k_dflt (refine' cmp_at ?ogF ?ogk ?ogv ?ogw ?ogb ?_; (case ogF => k_asm); (case ogk => rfl); (case ogv => rfl); (case ogw => rfl); (case ogb => rfl)); k_whole)
  k_with "execs cons" => ((with_reducible refine wpAny_execs_cons ?_); (try dsimp only); (try clear qk ek); (try k_fold))
  k_with "og_mem" => first | with_reducible assumption | (refine memI ?_; with_reducible assumption) | (refine List.mem_append_right _ ?_; k_mem) | (refine List.mem_append_left _ ?_; k_mem)
  k_with "og_neo" => first | exact neLt (by assumption) (by k_mem) | exact neGt (by assumption) (by k_mem) | (refine neN ?_; (try dsimp only); lia)
  k_with "og_ne" => first | assumption | exact Ne.symm (by assumption) | (k_extra "og_neo")
  k_with "og_all" => first | assumption | exact neAll (by assumption) (fun _ h => h) | exact neAll (by assumption) (by intro p hp; k_mem) | exact off1 (by assumption) (by assumption) | exact LCg_lt (by assumption) | exact offL (by assumption) (by k_mem) | exact off_tup (by assumption) (by assumption) (by intro p hp; k_mem) (by k_mem) | (refine List.forall_mem_append.mpr ⟨?_, ?_⟩ <;> k_all) | exact off1 (by assumption) (by lia)
  k_with "og_d" => first | exact dlt hd rfl rfl | exact dlt0 hd rfl rfl | exact dle hd rfl rfl | exact dle0 hd rfl rfl | exact dlq hd rfl rfl | exact dlq0 hd rfl rfl | exact dmk hd rfl | exact drk hd rfl | exact drk0 hd rfl | (simp only [depth_deeper, depth_in1]; lia)
  k_with "og_u" => first | exact dlt hu rfl rfl | exact dlt0 hu rfl rfl | exact dle hu rfl rfl | exact dle0 hu rfl rfl | exact dlq hu rfl rfl | exact dlq0 hu rfl rfl | exact umk hu rfl | exact urk hu rfl | exact urk0 hu rfl | (simp only [units_deeper, units_in1]; lia)
  k_with "og_memb" => (repeat' (first | exact List.forall_mem_nil _ | (intro p hp; k_mem; done) | refine List.forall_mem_append.mpr ⟨?_, ?_⟩ | refine List.forall_mem_cons.mpr ⟨?_, ?_⟩ | k_mem))
  k_with "og_peel" => ((try dsimp +zetaDelta only [List.nil_append, List.cons_append] at *); (repeat (first | clear ledk | clear mk | clear qk | clear ek)))
  k_with "newTuple" => (k_dflt (refine' newtup_le ?ogF ?ogN ?_ ?ogz; (case ogF => k_asm); (case ogN => k_asm); (case ogz => kmk_size)); intro _ _ ledk _ _ l1; (try (dsimp +zetaDelta only at l1; k_lt l1)); (try k_sweep); (try (revert l1; intros)))
  k_with "eval Tuple" => (k_dflt (refine' tup_le ?ogF ?ogN ?ogk ?ogv ?ogz ?_; (case ogN => k_asm); (case ogF => k_asm); (case ogk => rfl); (case ogv => rfl); (case ogz => kmk_size)); k_whole; intro _ _ ledk _ _ l1; (try (dsimp +zetaDelta only at l1; k_lt l1)); (try k_sweep); (try (revert l1; intros)))
  k_with "storeName" => (k_dflt (refine' store_le ?ogF ?ogN ?_ ?oga ?ogb; (case ogF => k_asm); (case ogN => k_asm); (case oga => rfl); (case ogb => rfl)); k_whole; intro _ mk _ _; (try k_sweep))
  k_with "call builtin:list.append" => ((with_reducible show wpAny _ _ (call (Value.builtin _) [Value.ref _, _]) _ _ _); k_dflt (refine' append_le ?ogF ?ogN ?ogU ?_ ?ogz; (case ogF => k_asm); (case ogN => k_asm); (case ogU => k_upd); (case ogz => ((try simp only [List.length_append, List.length_cons, List.length_nil]); lia))); k_whole; intro _ ledk _ _; (try k_sweep))
  k_with "subscriptTail" => ((with_reducible show wpAny _ _ (subscriptTail _ _ (Value.ref _) (Value.int _ _)) _ _ _); k_dflt (refine' sub_g ?ogk1 ?ogk2 ?ogk3 ?ogk4 ?ogk5 ?ogk6 ?_ ?ogk7; (case ogk1 => k_asm); (case ogk2 => with_reducible assumption); (case ogk3 => decide); (case ogk4 => decide); (case ogk5 => exact rfl); (case ogk6 => exact rfl); (case ogk7 => with_unfolding_all rfl); k_whole))
  k_with "call ref" => (k_dflt (refine' call_chg ?oga1 ?oga2 ?oga3 ?oga4 ?oga5 ?oga6 ?oga7 ?oga8 ?oga9 ?ogb1 ?ogb2 ?ogbd ?ogb3 ?ogb4 ?ogb5 ?ogb6 ?ogb7 ?ogb8 ?ogb9 ?ogc1 ?_; (case oga1 => assumption); (case oga2 => assumption); (case oga4 => assumption); (case oga5 => k_asm); (case oga6 => k_asm); (case oga7 => assumption); (case oga8 => assumption); (case oga9 => assumption); (case ogb1 => with_reducible assumption); (case ogb2 => first | with_reducible assumption | exact up0 (by with_reducible assumption)); (case oga3 => assumption); (case ogbd => ((try simp only [List.length_append]); lia)); (case ogb3 => assumption); (case ogb4 => assumption); (case ogb5 => (repeat' (first | exact List.forall_mem_nil _ | (intro p hp; k_mem; done) | refine List.forall_mem_append.mpr ⟨?_, ?_⟩))); (case ogb6 => (repeat' (first | exact RestV.nil | (refine' RestV.skips ?ogr1 ?_; (case ogr1 => assumption)) | (refine' RestV.skipsEnd ?ogr1; (case ogr1 => assumption)) | (refine' RestV.keep ?ogr1 ?_; (case ogr1 => first | assumption | exact off_new (by assumption) (by assumption) | exact off_new (by assumption) (And.right (by assumption)) | exact off_app (by assumption) (And.right (by assumption)) | exact off_app (by assumption) (by assumption))) | (refine' RestV.keeps ?ogr1 ?_; (case ogr1 => assumption)) | (refine' RestV.keepsEnd ?ogr1; (case ogr1 => assumption))))); (case ogb7 => (repeat' (first | exact List.forall_mem_nil _ | (intro p hp; k_mem; done) | refine List.forall_mem_append.mpr ⟨?_, ?_⟩))); (case ogb8 => k_asm); (case ogb9 => (k_extra "og_d")); (case ogc1 => (k_extra "og_u")); k_whole); intro h' tk' r mo' nw F' N' hc' hm' lo' ho' hS' hd'; (try dsimp only); (try simp only [List.cons_append, List.nil_append, List.append_assoc] at N'); (try simp only [List.nil_append, List.append_assoc] at hS' hd'); (try k_sweep); (try (revert h' tk' r mo' nw F' N' hc' hm' lo' ho' hS' hd'; intros)))
  k_with "FnAt" => (exact fn_g (by k_asm) (by assumption))
  k_with "callWith ref" => (k_dflt (refine' callWith_F ?ogk1 ?_; (case ogk1 => exact fn_g (by k_asm) (by assumption)); k_whole))
  k_with "compareOp In str ref" => (k_dflt (first | (refine' in_K (b := true) ?ogk1 ?ogk2 ?ogk3 ?ogk4 ?ogk5 ?_; (case ogk1 => k_asm); (case ogk2 => k_asm); (case ogk3 => k_is); (case ogk4 => (repeat constructor)); (case ogk5 => decide); k_whole) | (refine' in_K (b := false) ?ogk1 ?ogk2 ?ogk3 ?ogk4 ?ogk5 ?_; (case ogk1 => k_asm); (case ogk2 => k_asm); (case ogk3 => k_is); (case ogk4 => (repeat constructor)); (case ogk5 => decide); k_whole)))
  k_with "eval ListComp" => (k_dflt (refine' comp_pairs ?ogF0 ?ogh1 ?ogh2 ?ogh3 ?ogh4 ?ogh5 ?ogh6 ?ogh7 ?ogh8 ?_ ?oghs; (case ogF0 => k_asm); (case ogh1 => exact rfl); (case ogh2 => decide); (case ogh3 => exact rfl); (case ogh4 => decide); (case ogh5 => exact rfl); (case ogh6 => exact rfl); (case ogh7 => decide); (case ogh8 => k_asm); (case oghs => (intro _; rfl)); k_whole))
  k_with "subscriptTail" => ((with_reducible show wpAny _ _ (subscriptTail _ _ (Value.ref _) (Value.ref _)) _ _ _); k_dflt (first | (refine' slice6 ?ogk1 ?ogk2 ?ogk3 ?_ ?ogk4 ?ogk5; (case ogk1 => k_asm); (case ogk2 => k_asm); (case ogk3 => with_reducible assumption); (case ogk4 => (intro _; with_unfolding_all rfl)); (case ogk5 => (intro _; with_unfolding_all rfl)); k_whole) | (refine' slice4 ?ogk1 ?ogk2 ?ogk3 ?_ ?ogk4 ?ogk5; (case ogk1 => k_asm); (case ogk2 => k_asm); (case ogk3 => with_reducible assumption); (case ogk4 => (intro _; with_unfolding_all rfl)); (case ogk5 => (intro _; with_unfolding_all rfl)); k_whole)); intro D' h' F' N' l1 l2; (try dsimp only); (try k_lt l1); (try k_lt2 l2); (try k_sweep); (try (revert D' h' F' N' l1 l2; intros)))
  k_with "binaryOp Add ref ref" => (k_dflt (refine' add_t ?ogk1 ?ogk2 ?ogk3 ?ogk4 ?ogk5 ?ogk6 ?ogk7 ?_; (case ogk1 => k_asm); (case ogk2 => k_asm); (case ogk3 => k_mem); (case ogk4 => k_mem); (case ogk5 => exact List.cons_ne_nil _ _); (case ogk6 => exact List.cons_ne_nil _ _); (case ogk7 => (simp only [List.length_cons, List.length_nil]; decide)); k_whole); intro D' h' F' N' l1; (try simp only [List.cons_append, List.nil_append] at N'); (try k_lt l1); (try k_sweep); (try (revert D' h' F' N' l1; intros)))
  trivial
theorem exch_iff {prog : Program} {w : World} {c : Nat} {mk : Str} {Ms : List Nat} {S : (Addr → Obj → Prop) → List D → Prop} {ok : List St → Prop} {f : List St → D} {e : List St → List D} {K U : Nat} (C : ChgSpec prog w c Ms S ok (fun x => .tup (toDs mk x)) f e K U) (HS : ChgS Ms S) (a b : Rf) (x y : List St) (hok : ∀ q ∈ (St.iff a b x y).bodies, ok q) :
    ExchSpec prog w c mk Ms S f e (K + 3) (U + 9) (St.iff a b x y) := by
  intro A s G R v l V B kp hMs hV hS hv hbd hcM hfn hA hd hu hret
  simp only [St.bodies, List.flatMap_cons, List.flatMap_nil, List.append_nil, List.length_append] at hbd
  have hnow := now_led (Ms := Ms) (G := G) (h₀ := s.heap) fun q hq => ⟨hMs q hq, let ⟨o, y, _⟩ := HS.has hS q hq; ⟨o, hV _ _ y⟩⟩
  obtain ⟨hled, hcov, hmM, hl₀⟩ := hnow
  have hS0 := HS.mono (vv_start hV hcov fun p hp => (hled p hp).1) hS
  have hmo : ∀ q ∈ Ms, q < s.heap.objs.size := fun q hq => let ⟨o, y, _⟩ := HS.has hS q hq; Heap.lt_size (hV _ _ y)
  have ntup : ∀ q ws n, V q (tupOf ws n) → q ∉ Ms := fun q ws n hq hm => by
    obtain ⟨o, y, n⟩ := HS.has hS q hm
    have e1 : s.heap.get? q = some o := hV _ _ y
    have e2 : s.heap.get? q = some (tupOf ws _) := hV _ _ hq
    rw [e2] at e1
    cases e1; exact n rfl
  generalize nowOf Ms s.heap = mo at hled hcov hmM hl₀ hS0
  have hrm : A.depth < recursionLimit := Nat.lt_trans (by first | exact Nat.lt_of_le_of_lt (Nat.le_add_right _ _) (Nat.lt_trans hd (by decide)) | exact Nat.lt_of_le_of_lt hd (by decide) | lia) (show 800 < recursionLimit by decide)
  simp only [St.toD, sS] at hv
  obtain ⟨av, vs, nv, hva, hvs⟩ := dvt hv
  obtain ⟨v0, v1, v2, v3, d0, d1, d2, d3⟩ := dvs4 hvs
  obtain ⟨t0, rfl⟩ := dvstr d0
  refine' enterC (binds := [(Str.ofString "statement", .ref av), (Str.ofString "change", .ref c)]) B kp _ hled ?_ ?_ hrm ?_ ?_ ?_ ?_ ?_ ?_ ?_
  any_goals k_is
  any_goals (exact BindsTo.of_eq rfl)
  any_goals (first | rfl | decide)
  intro g h₁ tk' cells hg1 hg2 F N Y l1 B'
  obtain ⟨o1, hcs, c1⟩ := CellsAre.one Y
  subst hcs
  replace c1 : o1.data = .cell (some (.ref c)) := c1
  try simp only [List.cons_append, List.nil_append] at N
  have X := B'.X
  obtain ⟨p, loose, mean, mg, mb, Tp⟩ := B'.T
  have gc : FnAt c g := let ⟨a, b, d, e, q⟩ := hfn; ⟨a, b, d, e, vv_g hg1 hV hl₀ q hcM⟩
  have toV : ∀ {v d}, Dv V v d → Dv (Vv V Ms []) v d := fun x => x.mono fun q ws n y => .inl ⟨y, ntup _ _ _ y⟩
  have tg : ∀ {a vs n}, V a (tupOf vs n) → g.get? a = some (tupOf vs n) := fun hva => vv_g hg1 hV hl₀ hva (ntup _ _ _ hva)
  have ga := tg hva
  replace d1 := toV d1
  replace d2 := toV d2
  replace d3 := toV d3
  have ok1 : ok x := hok _ (by simp [St.bodies])
  have ok2 : ok y := hok _ (by simp [St.bodies])
  clear hv hvs d0 hva
  rw [← List.append_nil mo] at hS0
  clear kp B hg2 hled hrm Y hS toV tg
  have hcb : (s.heap.objs.size + 1) ∉ Ms := lt_off hmo (Nat.le_succ _)
  k_steps
  all_goals (try dsimp only)
  all_goals (
    k_extra "og_peel"
    rename News _ _ _ _ => N9
    rename Fr _ _ _ _ => F9
    have SA := aft_end hg1 F9 N9 hV hl₀ (fun p h => h)
    have hb : (St.iff a b x y).bodies.flatMap e = e x ++ e y := by simp [St.bodies]
    rw [hb] at hret
    refine hret _ _ _ (kp_fin hg1 F9 hl₀ (Nat.le_refl _)) (HS.mono (fun q o z => SA q o (vv_sub ?sub q o z)) (by with_reducible assumption)) ?_
    case sub => (k_extra "og_memb")
    simp only [St.exch, sS]
    repeat' (first
      | exact Dvs.nil | exact Dv.none | exact Dv.bool _ | exact Dv.bytes _ _ | exact Dv.str _ _ | exact Dv.int _ _
      | exact (up0 (by with_reducible assumption)).sub SA
      | exact (Dv.sub (by with_reducible assumption) (vv_sub (by (k_extra "og_memb")))).sub SA
      | refine Dvs.cons ?_ ?_
      | refine Dv.tup (SA _ _ (.inr (by k_mem))) ?_))
theorem exch_mv {prog : Program} {w : World} {c : Nat} {mk : Str} {Ms : List Nat} {S : (Addr → Obj → Prop) → List D → Prop} {ok : List St → Prop} {f : List St → D} {e : List St → List D} {K U : Nat} (C : ChgSpec prog w c Ms S ok (fun x => .tup (toDs mk x)) f e K U) (HS : ChgS Ms S) (a b : Rf) (hok : ∀ q ∈ (St.mv a b).bodies, ok q) :
    ExchSpec prog w c mk Ms S f e (K + 3) (U + 9) (St.mv a b) := by
  intro A s G R v l V B kp hMs hV hS hv hbd hcM hfn hA hd hu hret
  simp only [St.bodies, List.flatMap_cons, List.flatMap_nil, List.append_nil, List.length_append] at hbd
  have hnow := now_led (Ms := Ms) (G := G) (h₀ := s.heap) fun q hq => ⟨hMs q hq, let ⟨o, y, _⟩ := HS.has hS q hq; ⟨o, hV _ _ y⟩⟩
  obtain ⟨hled, hcov, hmM, hl₀⟩ := hnow
  have hS0 := HS.mono (vv_start hV hcov fun p hp => (hled p hp).1) hS
  have hmo : ∀ q ∈ Ms, q < s.heap.objs.size := fun q hq => let ⟨o, y, _⟩ := HS.has hS q hq; Heap.lt_size (hV _ _ y)
  have ntup : ∀ q ws n, V q (tupOf ws n) → q ∉ Ms := fun q ws n hq hm => by
    obtain ⟨o, y, n⟩ := HS.has hS q hm
    have e1 : s.heap.get? q = some o := hV _ _ y
    have e2 : s.heap.get? q = some (tupOf ws _) := hV _ _ hq
    rw [e2] at e1
    cases e1; exact n rfl
  generalize nowOf Ms s.heap = mo at hled hcov hmM hl₀ hS0
  have hrm : A.depth < recursionLimit := Nat.lt_trans (by first | exact Nat.lt_of_le_of_lt (Nat.le_add_right _ _) (Nat.lt_trans hd (by decide)) | exact Nat.lt_of_le_of_lt hd (by decide) | lia) (show 800 < recursionLimit by decide)
  simp only [St.toD, sS] at hv
  obtain ⟨av, vs, nv, hva, hvs⟩ := dvt hv
  obtain ⟨v0, v1, v2, d0, d1, d2⟩ := dvs3 hvs
  obtain ⟨t0, rfl⟩ := dvstr d0
  refine' enterC (binds := [(Str.ofString "statement", .ref av), (Str.ofString "change", .ref c)]) B kp _ hled ?_ ?_ hrm ?_ ?_ ?_ ?_ ?_ ?_ ?_
  any_goals k_is
  any_goals (exact BindsTo.of_eq rfl)
  any_goals (first | rfl | decide)
  intro g h₁ tk' cells hg1 hg2 F N Y l1 B'
  obtain ⟨o1, hcs, c1⟩ := CellsAre.one Y
  subst hcs
  replace c1 : o1.data = .cell (some (.ref c)) := c1
  try simp only [List.cons_append, List.nil_append] at N
  have X := B'.X
  obtain ⟨p, loose, mean, mg, mb, Tp⟩ := B'.T
  have gc : FnAt c g := let ⟨a, b, d, e, q⟩ := hfn; ⟨a, b, d, e, vv_g hg1 hV hl₀ q hcM⟩
  have toV : ∀ {v d}, Dv V v d → Dv (Vv V Ms []) v d := fun x => x.mono fun q ws n y => .inl ⟨y, ntup _ _ _ y⟩
  have tg : ∀ {a vs n}, V a (tupOf vs n) → g.get? a = some (tupOf vs n) := fun hva => vv_g hg1 hV hl₀ hva (ntup _ _ _ hva)
  have ga := tg hva
  replace hv := toV hv
  clear hvs d0 d1 d2 hva
  rw [← List.append_nil mo] at hS0
  clear kp B hg2 hled hrm Y hS toV tg
  have hcb : (s.heap.objs.size + 1) ∉ Ms := lt_off hmo (Nat.le_succ _)
  k_steps
  all_goals (try dsimp only)
  all_goals (
    k_extra "og_peel"
    rename News _ _ _ _ => N9
    rename Fr _ _ _ _ => F9
    have SA := aft_end hg1 F9 N9 hV hl₀ (fun p h => h)
    have hb : (St.mv a b).bodies.flatMap e = [] := by simp [St.bodies]
    rw [← List.append_nil l] at hS0
    rw [hb] at hret
    refine hret _ _ _ (kp_fin hg1 F9 hl₀ (Nat.le_refl _)) (HS.mono (fun q o z => SA q o (vv_sub ?sub q o z)) (by with_reducible assumption)) ?_
    case sub => (k_extra "og_memb")
    simp only [St.exch, St.toD, sS]
    repeat' (first
      | exact Dvs.nil | exact Dv.none | exact Dv.bool _ | exact Dv.bytes _ _ | exact Dv.str _ _ | exact Dv.int _ _
      | exact (up0 (by with_reducible assumption)).sub SA
      | exact (Dv.sub (by with_reducible assumption) (vv_sub (by (k_extra "og_memb")))).sub SA
      | refine Dvs.cons ?_ ?_
      | refine Dv.tup (SA _ _ (.inr (by k_mem))) ?_))
theorem exch_pf {prog : Program} {w : World} {c : Nat} {mk : Str} {Ms : List Nat} {S : (Addr → Obj → Prop) → List D → Prop} {ok : List St → Prop} {f : List St → D} {e : List St → List D} {K U : Nat} (C : ChgSpec prog w c Ms S ok (fun x => .tup (toDs mk x)) f e K U) (HS : ChgS Ms S) (a b c' : Rf) (x : List St) (hok : ∀ q ∈ (St.pf a b c' x).bodies, ok q) :
    ExchSpec prog w c mk Ms S f e (K + 3) (U + 9) (St.pf a b c' x) := by
  intro A s G R v l V B kp hMs hV hS hv hbd hcM hfn hA hd hu hret
  simp only [St.bodies, List.flatMap_cons, List.flatMap_nil, List.append_nil, List.length_append] at hbd
  have hnow := now_led (Ms := Ms) (G := G) (h₀ := s.heap) fun q hq => ⟨hMs q hq, let ⟨o, y, _⟩ := HS.has hS q hq; ⟨o, hV _ _ y⟩⟩
  obtain ⟨hled, hcov, hmM, hl₀⟩ := hnow
  have hS0 := HS.mono (vv_start hV hcov fun p hp => (hled p hp).1) hS
  have hmo : ∀ q ∈ Ms, q < s.heap.objs.size := fun q hq => let ⟨o, y, _⟩ := HS.has hS q hq; Heap.lt_size (hV _ _ y)
  have ntup : ∀ q ws n, V q (tupOf ws n) → q ∉ Ms := fun q ws n hq hm => by
    obtain ⟨o, y, n⟩ := HS.has hS q hm
    have e1 : s.heap.get? q = some o := hV _ _ y
    have e2 : s.heap.get? q = some (tupOf ws _) := hV _ _ hq
    rw [e2] at e1
    cases e1; exact n rfl
  generalize nowOf Ms s.heap = mo at hled hcov hmM hl₀ hS0
  have hrm : A.depth < recursionLimit := Nat.lt_trans (by first | exact Nat.lt_of_le_of_lt (Nat.le_add_right _ _) (Nat.lt_trans hd (by decide)) | exact Nat.lt_of_le_of_lt hd (by decide) | lia) (show 800 < recursionLimit by decide)
  simp only [St.toD, sS] at hv
  obtain ⟨av, vs, nv, hva, hvs⟩ := dvt hv
  obtain ⟨v0, v1, v2, d0, d1, d2⟩ := dvs3 hvs
  obtain ⟨t0, rfl⟩ := dvstr d0
  obtain ⟨bv, bs, nb, hvb, hbs⟩ := dvt d1
  obtain ⟨u0, u1, b0, b1⟩ := dvs2 hbs
  obtain ⟨t1, rfl⟩ := dvstr b0
  refine' enterC (binds := [(Str.ofString "statement", .ref av), (Str.ofString "change", .ref c)]) B kp _ hled ?_ ?_ hrm ?_ ?_ ?_ ?_ ?_ ?_ ?_
  any_goals k_is
  any_goals (exact BindsTo.of_eq rfl)
  any_goals (first | rfl | decide)
  intro g h₁ tk' cells hg1 hg2 F N Y l1 B'
  obtain ⟨o1, hcs, c1⟩ := CellsAre.one Y
  subst hcs
  replace c1 : o1.data = .cell (some (.ref c)) := c1
  try simp only [List.cons_append, List.nil_append] at N
  have X := B'.X
  obtain ⟨p, loose, mean, mg, mb, Tp⟩ := B'.T
  have gc : FnAt c g := let ⟨a, b, d, e, q⟩ := hfn; ⟨a, b, d, e, vv_g hg1 hV hl₀ q hcM⟩
  have toV : ∀ {v d}, Dv V v d → Dv (Vv V Ms []) v d := fun x => x.mono fun q ws n y => .inl ⟨y, ntup _ _ _ y⟩
  have tg : ∀ {a vs n}, V a (tupOf vs n) → g.get? a = some (tupOf vs n) := fun hva => vv_g hg1 hV hl₀ hva (ntup _ _ _ hva)
  have ga := tg hva
  have gb := tg hvb
  replace d2 := toV d2
  replace b1 := toV b1
  have ok1 : ok x := hok _ (by simp [St.bodies])
  clear hv hvs d0 d1 b0 hva hvb hbs
  rw [← List.append_nil mo] at hS0
  clear kp B hg2 hled hrm Y hS toV tg
  have hcb : (s.heap.objs.size + 1) ∉ Ms := lt_off hmo (Nat.le_succ _)
  k_steps
  all_goals (try dsimp only)
  all_goals (
    k_extra "og_peel"
    rename News _ _ _ _ => N9
    rename Fr _ _ _ _ => F9
    have SA := aft_end hg1 F9 N9 hV hl₀ (fun p h => h)
    have hb : (St.pf a b c' x).bodies.flatMap e = e x := by simp [St.bodies]
    rw [hb] at hret
    refine hret _ _ _ (kp_fin hg1 F9 hl₀ (Nat.le_refl _)) (HS.mono (fun q o z => SA q o (vv_sub ?sub q o z)) (by with_reducible assumption)) ?_
    case sub => (k_extra "og_memb")
    simp only [St.exch, sS]
    repeat' (first
      | exact Dvs.nil | exact Dv.none | exact Dv.bool _ | exact Dv.bytes _ _ | exact Dv.str _ _ | exact Dv.int _ _
      | exact (up0 (by with_reducible assumption)).sub SA
      | exact (Dv.sub (by with_reducible assumption) (vv_sub (by (k_extra "og_memb")))).sub SA
      | refine Dvs.cons ?_ ?_
      | refine Dv.tup (SA _ _ (.inr (by k_mem))) ?_))
theorem exch_ev {prog : Program} {w : World} {c : Nat} {mk : Str} {Ms : List Nat} {S : (Addr → Obj → Prop) → List D → Prop} {ok : List St → Prop} {f : List St → D} {e : List St → List D} {K U : Nat} (C : ChgSpec prog w c Ms S ok (fun x => .tup (toDs mk x)) f e K U) (HS : ChgS Ms S) (a : Rf) (x y z : List St) (hok : ∀ q ∈ (St.ev a x y z).bodies, ok q) :
    ExchSpec prog w c mk Ms S f e (K + 3) (U + 9) (St.ev a x y z) := by
  intro A s G R v l V B kp hMs hV hS hv hbd hcM hfn hA hd hu hret
  simp only [St.bodies, List.flatMap_cons, List.flatMap_nil, List.append_nil, List.length_append] at hbd
  have hnow := now_led (Ms := Ms) (G := G) (h₀ := s.heap) fun q hq => ⟨hMs q hq, let ⟨o, y, _⟩ := HS.has hS q hq; ⟨o, hV _ _ y⟩⟩
  obtain ⟨hled, hcov, hmM, hl₀⟩ := hnow
  have hS0 := HS.mono (vv_start hV hcov fun p hp => (hled p hp).1) hS
  have hmo : ∀ q ∈ Ms, q < s.heap.objs.size := fun q hq => let ⟨o, y, _⟩ := HS.has hS q hq; Heap.lt_size (hV _ _ y)
  have ntup : ∀ q ws n, V q (tupOf ws n) → q ∉ Ms := fun q ws n hq hm => by
    obtain ⟨o, y, n⟩ := HS.has hS q hm
    have e1 : s.heap.get? q = some o := hV _ _ y
    have e2 : s.heap.get? q = some (tupOf ws _) := hV _ _ hq
    rw [e2] at e1
    cases e1; exact n rfl
  generalize nowOf Ms s.heap = mo at hled hcov hmM hl₀ hS0
  have hrm : A.depth < recursionLimit := Nat.lt_trans (by first | exact Nat.lt_of_le_of_lt (Nat.le_add_right _ _) (Nat.lt_trans hd (by decide)) | exact Nat.lt_of_le_of_lt hd (by decide) | lia) (show 800 < recursionLimit by decide)
  simp only [St.toD, sS] at hv
  obtain ⟨av, vs, nv, hva, hvs⟩ := dvt hv
  obtain ⟨v0, v1, v2, v3, d0, d1, d2, d3⟩ := dvs4 hvs
  obtain ⟨t0, rfl⟩ := dvstr d0
  obtain ⟨wv, ws, nw, hvw, hws⟩ := dvt d2
  obtain ⟨w0, w1, e0, e1⟩ := dvs2 hws
  obtain ⟨p0, q0, m0, hp0, hq0⟩ := dvt e0
  obtain ⟨a0, b0, f0, g0⟩ := dvs2 hq0
  obtain ⟨p1, q1, m1, hp1, hq1⟩ := dvt e1
  obtain ⟨a1, b1, f1, g1⟩ := dvs2 hq1
  refine' enterC (binds := [(Str.ofString "statement", .ref av), (Str.ofString "change", .ref c)]) B kp _ hled ?_ ?_ hrm ?_ ?_ ?_ ?_ ?_ ?_ ?_
  any_goals k_is
  any_goals (exact BindsTo.of_eq rfl)
  any_goals (first | rfl | decide)
  intro g h₁ tk' cells hg1 hg2 F N Y l1 B'
  obtain ⟨o1, hcs, c1⟩ := CellsAre.one Y
  subst hcs
  replace c1 : o1.data = .cell (some (.ref c)) := c1
  try simp only [List.cons_append, List.nil_append] at N
  have X := B'.X
  obtain ⟨p, loose, mean, mg, mb, Tp⟩ := B'.T
  have gc : FnAt c g := let ⟨a, b, d, e, q⟩ := hfn; ⟨a, b, d, e, vv_g hg1 hV hl₀ q hcM⟩
  have toV : ∀ {v d}, Dv V v d → Dv (Vv V Ms []) v d := fun x => x.mono fun q ws n y => .inl ⟨y, ntup _ _ _ y⟩
  have tg : ∀ {a vs n}, V a (tupOf vs n) → g.get? a = some (tupOf vs n) := fun hva => vv_g hg1 hV hl₀ hva (ntup _ _ _ hva)
  have ga := tg hva
  have gw := tg hvw
  have gp0 := tg hp0
  have gp1 := tg hp1
  replace d1 := toV d1
  replace d3 := toV d3
  replace f0 := toV f0
  replace f1 := toV f1
  replace g0 := toV g0
  replace g1 := toV g1
  have ok1 : ok x := hok _ (by simp [St.bodies])
  have ok2 : ok y := hok _ (by simp [St.bodies])
  have ok3 : ok z := hok _ (by simp [St.bodies])
  obtain ⟨src, hsrc⟩ : ∃ src : List (D × List St), src = [(.tup [.tup [.tup [.str (Str.ofString "any")]]], x), (.tup [.tup [.tup [.str (Str.ofString "is"), .tup [.str (Str.ofString "text"), refB], .bool true]]], y)] := ⟨_, rfl⟩
  clear hv hvs d0 d2 e0 e1 hws hq0 hq1 hva hvw hp0 hp1
  rw [← List.append_nil mo] at hS0
  clear kp B hg2 hled hrm Y hS toV tg
  have hcb : (s.heap.objs.size + 1) ∉ Ms := lt_off hmo (Nat.le_succ _)
  k_steps
  all_goals (try dsimp only)
  k_extra "og_peel"
  rename Fr _ _ _ _ => F1
  rename News _ _ _ _ => N1
  refine exch_pairs (mk := mk) (ok := ok) (src := src) (f := f) (e := e) (l := l) (o1 := o1) (cl₀ := s.heap.objs.size + 1) (mo := mo) (V := V) (ws := [.ref p0, .ref p1]) ([]) (by rw [hsrc]; simp only [List.flatMap_cons, List.flatMap_nil, List.append_nil, List.length_append]; lia) HS F1 N1 (by (k_extra "og_memb")) (by (repeat' (first | exact List.forall_mem_nil _ | refine List.forall_mem_cons.mpr ⟨?_, ?_⟩)) <;> first | exact off_new hcov (by assumption) | exact off_new hcov (And.right (by assumption))) gw hcov hmM hcb (HS.mono (vv_sub (by (k_extra "og_memb"))) hS0) (by rw [hsrc]; rfl) (by simp) ?ws ?fin ?turn
  case ws =>
    intro i v hv
    rw [hsrc]
    rcases i with _ | _ | i
    · cases hv; exact ⟨p0, a0, b0, _, _, rfl, ⟨_, gp0, rfl, _, rfl⟩, rfl, f0, g0, ok1⟩
    · cases hv; exact ⟨p1, a1, b1, _, _, rfl, ⟨_, gp1, rfl, _, rfl⟩, rfl, f1, g1, ok2⟩
    · simp at hv
  case turn =>
    clear hcov hmM hS0 hsrc N1 F1
    intro s₂ hs₂ v₁ v₂ d xx ys l' mo2 nw2 I oI C oC D' m₂ h tk E' d1' d2' hok' hC hxn hyn F' N' i1 i2 i3 ne c1' c2' c3' hS' hbd'
    obtain ⟨hx, rfl⟩ := hs₂
    k_steps
    exact ex_turn_end HS (by k_asm) (by k_asm) (by assumption) (by assumption) (by assumption) (by assumption) (by assumption) (by assumption) (by assumption) (by assumption)
  case' fin =>
    clear hcov hmM hS0 N1 F1
    intro s₂ hs₂ ys mo2 nw2 D' h tk F' N' i3 c1' c2' c3' hS' dy
    obtain ⟨hx, rfl⟩ := hs₂
    rw [hsrc] at hS' dy
    simp only [List.flatMap_cons, List.flatMap_nil, List.append_nil, List.map_cons, List.map_nil] at hS' dy
    obtain ⟨y0, y1, dy0, dy1⟩ := dvs2 dy
    clear dy hsrc
    k_steps
    all_goals (try dsimp only)
  case fin => (
    k_extra "og_peel"
    rename News _ _ _ _ => N9
    rename Fr _ _ _ _ => F9
    have SA := aft_end hg1 F9 N9 hV hl₀ (fun p h => h)
    have hb : (St.ev a x y z).bodies.flatMap e = e x ++ (e y ++ e z) := by simp [St.bodies]
    rw [hb] at hret
    refine hret _ _ _ (kp_fin hg1 F9 hl₀ (Nat.le_refl _)) (HS.mono (fun q o z => SA q o (vv_sub ?sub q o z)) (by with_reducible assumption)) ?_
    case sub => (k_extra "og_memb")
    simp only [St.exch, sS]
    repeat' (first
      | exact Dvs.nil | exact Dv.none | exact Dv.bool _ | exact Dv.bytes _ _ | exact Dv.str _ _ | exact Dv.int _ _
      | exact (up0 (by with_reducible assumption)).sub SA
      | exact (Dv.sub (by with_reducible assumption) (vv_sub (by (k_extra "og_memb")))).sub SA
      | refine Dvs.cons ?_ ?_
      | refine Dv.tup (SA _ _ (.inr (by k_mem))) ?_))
theorem exch_br0 {prog : Program} {w : World} {c : Nat} {mk : Str} {Ms : List Nat} {S : (Addr → Obj → Prop) → List D → Prop} {ok : List St → Prop} {f : List St → D} {e : List St → List D} {K U : Nat} (C : ChgSpec prog w c Ms S ok (fun x => .tup (toDs mk x)) f e K U) (HS : ChgS Ms S) (a : Rf) (x y : List St) (hok : ∀ q ∈ (St.br 0 a x y).bodies, ok q) :
    ExchSpec prog w c mk Ms S f e (K + 3) (U + 9) (St.br 0 a x y) := by
  intro A s G R v l V B kp hMs hV hS hv hbd hcM hfn hA hd hu hret
  simp only [St.bodies, List.flatMap_cons, List.flatMap_nil, List.append_nil, List.length_append] at hbd
  have hnow := now_led (Ms := Ms) (G := G) (h₀ := s.heap) fun q hq => ⟨hMs q hq, let ⟨o, y, _⟩ := HS.has hS q hq; ⟨o, hV _ _ y⟩⟩
  obtain ⟨hled, hcov, hmM, hl₀⟩ := hnow
  have hS0 := HS.mono (vv_start hV hcov fun p hp => (hled p hp).1) hS
  have hmo : ∀ q ∈ Ms, q < s.heap.objs.size := fun q hq => let ⟨o, y, _⟩ := HS.has hS q hq; Heap.lt_size (hV _ _ y)
  have ntup : ∀ q ws n, V q (tupOf ws n) → q ∉ Ms := fun q ws n hq hm => by
    obtain ⟨o, y, n⟩ := HS.has hS q hm
    have e1 : s.heap.get? q = some o := hV _ _ y
    have e2 : s.heap.get? q = some (tupOf ws _) := hV _ _ hq
    rw [e2] at e1
    cases e1; exact n rfl
  generalize nowOf Ms s.heap = mo at hled hcov hmM hl₀ hS0
  have hrm : A.depth < recursionLimit := Nat.lt_trans (by first | exact Nat.lt_of_le_of_lt (Nat.le_add_right _ _) (Nat.lt_trans hd (by decide)) | exact Nat.lt_of_le_of_lt hd (by decide) | lia) (show 800 < recursionLimit by decide)
  simp only [St.toD, sS] at hv
  rw [brHead0] at hv
  simp only [sS, List.cons_append, List.nil_append] at hv
  obtain ⟨av, vs, nv, hva, hvs⟩ := dvt hv
  obtain ⟨v0, v1, v2, v3, v4, v5, d0, d1, d2, d3, d4, d5⟩ := dvs6 hvs
  obtain ⟨t0, rfl⟩ := dvstr d0
  obtain ⟨wv, ws, nw, hvw, hws⟩ := dvt d5
  obtain ⟨w0, w1, e0, e1⟩ := dvs2 hws
  obtain ⟨p0, q0, m0, hp0, hq0⟩ := dvt e0
  obtain ⟨a0, b0, f0, g0⟩ := dvs2 hq0
  obtain ⟨p1, q1, m1, hp1, hq1⟩ := dvt e1
  obtain ⟨a1, b1, f1, g1⟩ := dvs2 hq1
  refine' enterC (binds := [(Str.ofString "statement", .ref av), (Str.ofString "change", .ref c)]) B kp _ hled ?_ ?_ hrm ?_ ?_ ?_ ?_ ?_ ?_ ?_
  any_goals k_is
  any_goals (exact BindsTo.of_eq rfl)
  any_goals (first | rfl | decide)
  intro g h₁ tk' cells hg1 hg2 F N Y l1 B'
  obtain ⟨o1, hcs, c1⟩ := CellsAre.one Y
  subst hcs
  replace c1 : o1.data = .cell (some (.ref c)) := c1
  try simp only [List.cons_append, List.nil_append] at N
  have X := B'.X
  obtain ⟨p, loose, mean, mg, mb, Tp⟩ := B'.T
  have gc : FnAt c g := let ⟨a, b, d, e, q⟩ := hfn; ⟨a, b, d, e, vv_g hg1 hV hl₀ q hcM⟩
  have toV : ∀ {v d}, Dv V v d → Dv (Vv V Ms []) v d := fun x => x.mono fun q ws n y => .inl ⟨y, ntup _ _ _ y⟩
  have tg : ∀ {a vs n}, V a (tupOf vs n) → g.get? a = some (tupOf vs n) := fun hva => vv_g hg1 hV hl₀ hva (ntup _ _ _ hva)
  have ga := tg hva
  have gw := tg hvw
  have gp0 := tg hp0
  have gp1 := tg hp1
  replace d1 := toV d1
  replace d2 := toV d2
  replace d3 := toV d3
  replace d4 := toV d4
  replace f0 := toV f0
  replace f1 := toV f1
  replace g0 := toV g0
  replace g1 := toV g1
  have ok1 : ok x := hok _ (by simp [St.bodies])
  have ok2 : ok y := hok _ (by simp [St.bodies])
  obtain ⟨src, hsrc⟩ : ∃ src : List (D × List St), src = [(.str (Str.ofString "end"), x), (.str (Str.ofString "not end"), y)] := ⟨_, rfl⟩
  clear hv hvs d0 d5 e0 e1 hws hq0 hq1 hva hvw hp0 hp1
  rw [← List.append_nil mo] at hS0
  clear kp B hg2 hled hrm Y hS toV tg
  have hcb : (s.heap.objs.size + 1) ∉ Ms := lt_off hmo (Nat.le_succ _)
  k_steps
  all_goals (try dsimp only)
  k_extra "og_peel"
  rename_i h'_0 tk_0 tk_1 D'_0 h'_1 F'_0 N'_0 l1_0 l2_0
  rename Fr _ _ _ _ => F1
  rename News _ _ _ _ => N1
  refine exch_pairs (mk := mk) (ok := ok) (src := src) (f := f) (e := e) (l := l) (o1 := o1) (cl₀ := s.heap.objs.size + 1) (mo := mo) (V := V) (ws := [.ref p0, .ref p1]) ([(D'_0, tupOf [.str (Str.ofString "read") t0, v1, v2, v3, v4] 0)]) (by rw [hsrc]; simp only [List.flatMap_cons, List.flatMap_nil, List.append_nil, List.length_append]; lia) HS F1 N1 (by (k_extra "og_memb")) (by (repeat' (first | exact List.forall_mem_nil _ | refine List.forall_mem_cons.mpr ⟨?_, ?_⟩)) <;> first | exact off_new hcov (by assumption) | exact off_new hcov (And.right (by assumption))) gw hcov hmM hcb (HS.mono (vv_sub (by (k_extra "og_memb"))) hS0) (by rw [hsrc]; rfl) (by simp) ?ws ?fin ?turn
  case ws =>
    intro i v hv
    rw [hsrc]
    rcases i with _ | _ | i
    · cases hv; exact ⟨p0, a0, b0, _, _, rfl, ⟨_, gp0, rfl, _, rfl⟩, rfl, f0, g0, ok1⟩
    · cases hv; exact ⟨p1, a1, b1, _, _, rfl, ⟨_, gp1, rfl, _, rfl⟩, rfl, f1, g1, ok2⟩
    · simp at hv
  case turn =>
    clear hcov hmM hS0 hsrc N1 F1
    intro s₂ hs₂ v₁ v₂ d xx ys l' mo2 nw2 I oI C oC D' m₂ h tk E' d1' d2' hok' hC hxn hyn F' N' i1 i2 i3 ne c1' c2' c3' hS' hbd'
    obtain ⟨hx, rfl⟩ := hs₂
    k_steps
    exact ex_turn_end HS (by k_asm) (by k_asm) (by assumption) (by assumption) (by assumption) (by assumption) (by assumption) (by assumption) (by assumption) (by assumption)
  case' fin =>
    clear hcov hmM hS0 N1 F1
    intro s₂ hs₂ ys mo2 nw2 D' h tk F' N' i3 c1' c2' c3' hS' dy
    obtain ⟨hx, rfl⟩ := hs₂
    rw [hsrc] at hS' dy
    simp only [List.flatMap_cons, List.flatMap_nil, List.append_nil, List.map_cons, List.map_nil] at hS' dy
    obtain ⟨y0, y1, dy0, dy1⟩ := dvs2 dy
    clear dy hsrc
    k_steps
    all_goals (try dsimp only)
  case fin => (
    k_extra "og_peel"
    rename News _ _ _ _ => N9
    rename Fr _ _ _ _ => F9
    have SA := aft_end hg1 F9 N9 hV hl₀ (fun p h => h)
    have hb : (St.br 0 a x y).bodies.flatMap e = e x ++ e y := by simp [St.bodies]
    rw [hb] at hret
    refine hret _ _ _ (kp_fin hg1 F9 hl₀ (Nat.le_refl _)) (HS.mono (fun q o z => SA q o (vv_sub ?sub q o z)) (by with_reducible assumption)) ?_
    case sub => (k_extra "og_memb")
    simp only [St.exch, brHead0, sS, List.cons_append, List.nil_append]
    repeat' (first
      | exact Dvs.nil | exact Dv.none | exact Dv.bool _ | exact Dv.bytes _ _ | exact Dv.str _ _ | exact Dv.int _ _
      | exact (up0 (by with_reducible assumption)).sub SA
      | exact (Dv.sub (by with_reducible assumption) (vv_sub (by (k_extra "og_memb")))).sub SA
      | refine Dvs.cons ?_ ?_
      | refine Dv.tup (SA _ _ (.inr (by k_mem))) ?_))
theorem exch_br1 {prog : Program} {w : World} {c : Nat} {mk : Str} {Ms : List Nat} {S : (Addr → Obj → Prop) → List D → Prop} {ok : List St → Prop} {f : List St → D} {e : List St → List D} {K U : Nat} (C : ChgSpec prog w c Ms S ok (fun x => .tup (toDs mk x)) f e K U) (HS : ChgS Ms S) (a : Rf) (x y : List St) (hok : ∀ q ∈ (St.br 1 a x y).bodies, ok q) :
    ExchSpec prog w c mk Ms S f e (K + 3) (U + 9) (St.br 1 a x y) := by
  intro A s G R v l V B kp hMs hV hS hv hbd hcM hfn hA hd hu hret
  simp only [St.bodies, List.flatMap_cons, List.flatMap_nil, List.append_nil, List.length_append] at hbd
  have hnow := now_led (Ms := Ms) (G := G) (h₀ := s.heap) fun q hq => ⟨hMs q hq, let ⟨o, y, _⟩ := HS.has hS q hq; ⟨o, hV _ _ y⟩⟩
  obtain ⟨hled, hcov, hmM, hl₀⟩ := hnow
  have hS0 := HS.mono (vv_start hV hcov fun p hp => (hled p hp).1) hS
  have hmo : ∀ q ∈ Ms, q < s.heap.objs.size := fun q hq => let ⟨o, y, _⟩ := HS.has hS q hq; Heap.lt_size (hV _ _ y)
  have ntup : ∀ q ws n, V q (tupOf ws n) → q ∉ Ms := fun q ws n hq hm => by
    obtain ⟨o, y, n⟩ := HS.has hS q hm
    have e1 : s.heap.get? q = some o := hV _ _ y
    have e2 : s.heap.get? q = some (tupOf ws _) := hV _ _ hq
    rw [e2] at e1
    cases e1; exact n rfl
  generalize nowOf Ms s.heap = mo at hled hcov hmM hl₀ hS0
  have hrm : A.depth < recursionLimit := Nat.lt_trans (by first | exact Nat.lt_of_le_of_lt (Nat.le_add_right _ _) (Nat.lt_trans hd (by decide)) | exact Nat.lt_of_le_of_lt hd (by decide) | lia) (show 800 < recursionLimit by decide)
  simp only [St.toD, sS] at hv
  rw [brHead1] at hv
  simp only [sS, List.cons_append, List.nil_append] at hv
  obtain ⟨av, vs, nv, hva, hvs⟩ := dvt hv
  obtain ⟨v0, v1, v2, v3, d0, d1, d2, d3⟩ := dvs4 hvs
  obtain ⟨t0, rfl⟩ := dvstr d0
  obtain ⟨wv, ws, nw, hvw, hws⟩ := dvt d3
  obtain ⟨w0, w1, e0, e1⟩ := dvs2 hws
  obtain ⟨p0, q0, m0, hp0, hq0⟩ := dvt e0
  obtain ⟨a0, b0, f0, g0⟩ := dvs2 hq0
  obtain ⟨p1, q1, m1, hp1, hq1⟩ := dvt e1
  obtain ⟨a1, b1, f1, g1⟩ := dvs2 hq1
  refine' enterC (binds := [(Str.ofString "statement", .ref av), (Str.ofString "change", .ref c)]) B kp _ hled ?_ ?_ hrm ?_ ?_ ?_ ?_ ?_ ?_ ?_
  any_goals k_is
  any_goals (exact BindsTo.of_eq rfl)
  any_goals (first | rfl | decide)
  intro g h₁ tk' cells hg1 hg2 F N Y l1 B'
  obtain ⟨o1, hcs, c1⟩ := CellsAre.one Y
  subst hcs
  replace c1 : o1.data = .cell (some (.ref c)) := c1
  try simp only [List.cons_append, List.nil_append] at N
  have X := B'.X
  obtain ⟨p, loose, mean, mg, mb, Tp⟩ := B'.T
  have gc : FnAt c g := let ⟨a, b, d, e, q⟩ := hfn; ⟨a, b, d, e, vv_g hg1 hV hl₀ q hcM⟩
  have toV : ∀ {v d}, Dv V v d → Dv (Vv V Ms []) v d := fun x => x.mono fun q ws n y => .inl ⟨y, ntup _ _ _ y⟩
  have tg : ∀ {a vs n}, V a (tupOf vs n) → g.get? a = some (tupOf vs n) := fun hva => vv_g hg1 hV hl₀ hva (ntup _ _ _ hva)
  have ga := tg hva
  have gw := tg hvw
  have gp0 := tg hp0
  have gp1 := tg hp1
  replace d1 := toV d1
  replace d2 := toV d2
  replace f0 := toV f0
  replace f1 := toV f1
  replace g0 := toV g0
  replace g1 := toV g1
  have ok1 : ok x := hok _ (by simp [St.bodies])
  have ok2 : ok y := hok _ (by simp [St.bodies])
  obtain ⟨src, hsrc⟩ : ∃ src : List (D × List St), src = [(.str (Str.ofString "end"), x), (.str (Str.ofString "not end"), y)] := ⟨_, rfl⟩
  clear hv hvs d0 d3 e0 e1 hws hq0 hq1 hva hvw hp0 hp1
  rw [← List.append_nil mo] at hS0
  clear kp B hg2 hled hrm Y hS toV tg
  have hcb : (s.heap.objs.size + 1) ∉ Ms := lt_off hmo (Nat.le_succ _)
  k_steps
  all_goals (try dsimp only)
  k_extra "og_peel"
  rename_i h'_0 tk_0 tk_1 D'_0 h'_1 F'_0 N'_0 l1_0 l2_0
  rename Fr _ _ _ _ => F1
  rename News _ _ _ _ => N1
  refine exch_pairs (mk := mk) (ok := ok) (src := src) (f := f) (e := e) (l := l) (o1 := o1) (cl₀ := s.heap.objs.size + 1) (mo := mo) (V := V) (ws := [.ref p0, .ref p1]) ([(D'_0, tupOf [.str (Str.ofString "call") t0, v1, v2] 0)]) (by rw [hsrc]; simp only [List.flatMap_cons, List.flatMap_nil, List.append_nil, List.length_append]; lia) HS F1 N1 (by (k_extra "og_memb")) (by (repeat' (first | exact List.forall_mem_nil _ | refine List.forall_mem_cons.mpr ⟨?_, ?_⟩)) <;> first | exact off_new hcov (by assumption) | exact off_new hcov (And.right (by assumption))) gw hcov hmM hcb (HS.mono (vv_sub (by (k_extra "og_memb"))) hS0) (by rw [hsrc]; rfl) (by simp) ?ws ?fin ?turn
  case ws =>
    intro i v hv
    rw [hsrc]
    rcases i with _ | _ | i
    · cases hv; exact ⟨p0, a0, b0, _, _, rfl, ⟨_, gp0, rfl, _, rfl⟩, rfl, f0, g0, ok1⟩
    · cases hv; exact ⟨p1, a1, b1, _, _, rfl, ⟨_, gp1, rfl, _, rfl⟩, rfl, f1, g1, ok2⟩
    · simp at hv
  case turn =>
    clear hcov hmM hS0 hsrc N1 F1
    intro s₂ hs₂ v₁ v₂ d xx ys l' mo2 nw2 I oI C oC D' m₂ h tk E' d1' d2' hok' hC hxn hyn F' N' i1 i2 i3 ne c1' c2' c3' hS' hbd'
    obtain ⟨hx, rfl⟩ := hs₂
    k_steps
    exact ex_turn_end HS (by k_asm) (by k_asm) (by assumption) (by assumption) (by assumption) (by assumption) (by assumption) (by assumption) (by assumption) (by assumption)
  case' fin =>
    clear hcov hmM hS0 N1 F1
    intro s₂ hs₂ ys mo2 nw2 D' h tk F' N' i3 c1' c2' c3' hS' dy
    obtain ⟨hx, rfl⟩ := hs₂
    rw [hsrc] at hS' dy
    simp only [List.flatMap_cons, List.flatMap_nil, List.append_nil, List.map_cons, List.map_nil] at hS' dy
    obtain ⟨y0, y1, dy0, dy1⟩ := dvs2 dy
    clear dy hsrc
    k_steps
    all_goals (try dsimp only)
  case fin => (
    k_extra "og_peel"
    rename News _ _ _ _ => N9
    rename Fr _ _ _ _ => F9
    have SA := aft_end hg1 F9 N9 hV hl₀ (fun p h => h)
    have hb : (St.br 1 a x y).bodies.flatMap e = e x ++ e y := by simp [St.bodies]
    rw [hb] at hret
    refine hret _ _ _ (kp_fin hg1 F9 hl₀ (Nat.le_refl _)) (HS.mono (fun q o z => SA q o (vv_sub ?sub q o z)) (by with_reducible assumption)) ?_
    case sub => (k_extra "og_memb")
    simp only [St.exch, brHead1, sS, List.cons_append, List.nil_append]
    repeat' (first
      | exact Dvs.nil | exact Dv.none | exact Dv.bool _ | exact Dv.bytes _ _ | exact Dv.str _ _ | exact Dv.int _ _
      | exact (up0 (by with_reducible assumption)).sub SA
      | exact (Dv.sub (by with_reducible assumption) (vv_sub (by (k_extra "og_memb")))).sub SA
      | refine Dvs.cons ?_ ?_
      | refine Dv.tup (SA _ _ (.inr (by k_mem))) ?_))
theorem exch_br2 {prog : Program} {w : World} {c : Nat} {mk : Str} {Ms : List Nat} {S : (Addr → Obj → Prop) → List D → Prop} {ok : List St → Prop} {f : List St → D} {e : List St → List D} {K U : Nat} (C : ChgSpec prog w c Ms S ok (fun x => .tup (toDs mk x)) f e K U) (HS : ChgS Ms S) (k : Int) (h0 : k ≠ 0) (h1 : k ≠ 1) (a : Rf) (x y : List St) (hok : ∀ q ∈ (St.br k a x y).bodies, ok q) :
    ExchSpec prog w c mk Ms S f e (K + 3) (U + 9) (St.br k a x y) := by
  intro A s G R v l V B kp hMs hV hS hv hbd hcM hfn hA hd hu hret
  simp only [St.bodies, List.flatMap_cons, List.flatMap_nil, List.append_nil, List.length_append] at hbd
  have hnow := now_led (Ms := Ms) (G := G) (h₀ := s.heap) fun q hq => ⟨hMs q hq, let ⟨o, y, _⟩ := HS.has hS q hq; ⟨o, hV _ _ y⟩⟩
  obtain ⟨hled, hcov, hmM, hl₀⟩ := hnow
  have hS0 := HS.mono (vv_start hV hcov fun p hp => (hled p hp).1) hS
  have hmo : ∀ q ∈ Ms, q < s.heap.objs.size := fun q hq => let ⟨o, y, _⟩ := HS.has hS q hq; Heap.lt_size (hV _ _ y)
  have ntup : ∀ q ws n, V q (tupOf ws n) → q ∉ Ms := fun q ws n hq hm => by
    obtain ⟨o, y, n⟩ := HS.has hS q hm
    have e1 : s.heap.get? q = some o := hV _ _ y
    have e2 : s.heap.get? q = some (tupOf ws _) := hV _ _ hq
    rw [e2] at e1
    cases e1; exact n rfl
  generalize nowOf Ms s.heap = mo at hled hcov hmM hl₀ hS0
  have hrm : A.depth < recursionLimit := Nat.lt_trans (by first | exact Nat.lt_of_le_of_lt (Nat.le_add_right _ _) (Nat.lt_trans hd (by decide)) | exact Nat.lt_of_le_of_lt hd (by decide) | lia) (show 800 < recursionLimit by decide)
  simp only [St.toD, sS] at hv
  rw [brHeadX h0 h1] at hv
  simp only [sS, List.cons_append, List.nil_append] at hv
  obtain ⟨av, vs, nv, hva, hvs⟩ := dvt hv
  obtain ⟨v0, v1, v2, v3, d0, d1, d2, d3⟩ := dvs4 hvs
  obtain ⟨t0, rfl⟩ := dvstr d0
  obtain ⟨wv, ws, nw, hvw, hws⟩ := dvt d3
  obtain ⟨w0, w1, e0, e1⟩ := dvs2 hws
  obtain ⟨p0, q0, m0, hp0, hq0⟩ := dvt e0
  obtain ⟨a0, b0, f0, g0⟩ := dvs2 hq0
  obtain ⟨p1, q1, m1, hp1, hq1⟩ := dvt e1
  obtain ⟨a1, b1, f1, g1⟩ := dvs2 hq1
  refine' enterC (binds := [(Str.ofString "statement", .ref av), (Str.ofString "change", .ref c)]) B kp _ hled ?_ ?_ hrm ?_ ?_ ?_ ?_ ?_ ?_ ?_
  any_goals k_is
  any_goals (exact BindsTo.of_eq rfl)
  any_goals (first | rfl | decide)
  intro g h₁ tk' cells hg1 hg2 F N Y l1 B'
  obtain ⟨o1, hcs, c1⟩ := CellsAre.one Y
  subst hcs
  replace c1 : o1.data = .cell (some (.ref c)) := c1
  try simp only [List.cons_append, List.nil_append] at N
  have X := B'.X
  obtain ⟨p, loose, mean, mg, mb, Tp⟩ := B'.T
  have gc : FnAt c g := let ⟨a, b, d, e, q⟩ := hfn; ⟨a, b, d, e, vv_g hg1 hV hl₀ q hcM⟩
  have toV : ∀ {v d}, Dv V v d → Dv (Vv V Ms []) v d := fun x => x.mono fun q ws n y => .inl ⟨y, ntup _ _ _ y⟩
  have tg : ∀ {a vs n}, V a (tupOf vs n) → g.get? a = some (tupOf vs n) := fun hva => vv_g hg1 hV hl₀ hva (ntup _ _ _ hva)
  have ga := tg hva
  have gw := tg hvw
  have gp0 := tg hp0
  have gp1 := tg hp1
  replace d1 := toV d1
  replace d2 := toV d2
  replace f0 := toV f0
  replace f1 := toV f1
  replace g0 := toV g0
  replace g1 := toV g1
  have ok1 : ok x := hok _ (by simp [St.bodies])
  have ok2 : ok y := hok _ (by simp [St.bodies])
  obtain ⟨src, hsrc⟩ : ∃ src : List (D × List St), src = [(.str (Str.ofString "end"), x), (.str (Str.ofString "not end"), y)] := ⟨_, rfl⟩
  clear hv hvs d0 d3 e0 e1 hws hq0 hq1 hva hvw hp0 hp1
  rw [← List.append_nil mo] at hS0
  clear kp B hg2 hled hrm Y hS toV tg
  have hcb : (s.heap.objs.size + 1) ∉ Ms := lt_off hmo (Nat.le_succ _)
  k_steps
  all_goals (try dsimp only)
  k_extra "og_peel"
  rename_i h'_0 tk_0 tk_1 D'_0 h'_1 F'_0 N'_0 l1_0 l2_0
  rename Fr _ _ _ _ => F1
  rename News _ _ _ _ => N1
  refine exch_pairs (mk := mk) (ok := ok) (src := src) (f := f) (e := e) (l := l) (o1 := o1) (cl₀ := s.heap.objs.size + 1) (mo := mo) (V := V) (ws := [.ref p0, .ref p1]) ([(D'_0, tupOf [.str (Str.ofString "search-all") t0, v1, v2] 0)]) (by rw [hsrc]; simp only [List.flatMap_cons, List.flatMap_nil, List.append_nil, List.length_append]; lia) HS F1 N1 (by (k_extra "og_memb")) (by (repeat' (first | exact List.forall_mem_nil _ | refine List.forall_mem_cons.mpr ⟨?_, ?_⟩)) <;> first | exact off_new hcov (by assumption) | exact off_new hcov (And.right (by assumption))) gw hcov hmM hcb (HS.mono (vv_sub (by (k_extra "og_memb"))) hS0) (by rw [hsrc]; rfl) (by simp) ?ws ?fin ?turn
  case ws =>
    intro i v hv
    rw [hsrc]
    rcases i with _ | _ | i
    · cases hv; exact ⟨p0, a0, b0, _, _, rfl, ⟨_, gp0, rfl, _, rfl⟩, rfl, f0, g0, ok1⟩
    · cases hv; exact ⟨p1, a1, b1, _, _, rfl, ⟨_, gp1, rfl, _, rfl⟩, rfl, f1, g1, ok2⟩
    · simp at hv
  case turn =>
    clear hcov hmM hS0 hsrc N1 F1
    intro s₂ hs₂ v₁ v₂ d xx ys l' mo2 nw2 I oI C oC D' m₂ h tk E' d1' d2' hok' hC hxn hyn F' N' i1 i2 i3 ne c1' c2' c3' hS' hbd'
    obtain ⟨hx, rfl⟩ := hs₂
    k_steps
    exact ex_turn_end HS (by k_asm) (by k_asm) (by assumption) (by assumption) (by assumption) (by assumption) (by assumption) (by assumption) (by assumption) (by assumption)
  case' fin =>
    clear hcov hmM hS0 N1 F1
    intro s₂ hs₂ ys mo2 nw2 D' h tk F' N' i3 c1' c2' c3' hS' dy
    obtain ⟨hx, rfl⟩ := hs₂
    rw [hsrc] at hS' dy
    simp only [List.flatMap_cons, List.flatMap_nil, List.append_nil, List.map_cons, List.map_nil] at hS' dy
    obtain ⟨y0, y1, dy0, dy1⟩ := dvs2 dy
    clear dy hsrc
    k_steps
    all_goals (try dsimp only)
  case fin => (
    k_extra "og_peel"
    rename News _ _ _ _ => N9
    rename Fr _ _ _ _ => F9
    have SA := aft_end hg1 F9 N9 hV hl₀ (fun p h => h)
    have hb : (St.br k a x y).bodies.flatMap e = e x ++ e y := by simp [St.bodies]
    rw [hb] at hret
    refine hret _ _ _ (kp_fin hg1 F9 hl₀ (Nat.le_refl _)) (HS.mono (fun q o z => SA q o (vv_sub ?sub q o z)) (by with_reducible assumption)) ?_
    case sub => (k_extra "og_memb")
    simp only [St.exch, brHeadX h0 h1, sS, List.cons_append, List.nil_append]
    repeat' (first
      | exact Dvs.nil | exact Dv.none | exact Dv.bool _ | exact Dv.bytes _ _ | exact Dv.str _ _ | exact Dv.int _ _
      | exact (up0 (by with_reducible assumption)).sub SA
      | exact (Dv.sub (by with_reducible assumption) (vv_sub (by (k_extra "og_memb")))).sub SA
      | refine Dvs.cons ?_ ?_
      | refine Dv.tup (SA _ _ (.inr (by k_mem))) ?_))
theorem exch_all {prog : Program} {w : World} {c : Nat} {mk : Str} {Ms : List Nat} {S : (Addr → Obj → Prop) → List D → Prop} {ok : List St → Prop} {f : List St → D} {e : List St → List D} {K U : Nat} (C : ChgSpec prog w c Ms S ok (fun x => .tup (toDs mk x)) f e K U) (HS : ChgS Ms S) (st : St) (hok : ∀ z ∈ st.bodies, ok z) :
    ExchSpec prog w c mk Ms S f e (K + 3) (U + 9) st := by
  cases st with
  | mv a b => exact exch_mv (ok := ok) @C HS a b hok
  | iff a b x y => exact exch_iff (ok := ok) @C HS a b x y hok
  | ev a x y z => exact exch_ev (ok := ok) @C HS a x y z hok
  | pf a b c' x => exact exch_pf (ok := ok) @C HS a b c' x hok
  | br k a x y =>
    by_cases h0 : k = 0
    · subst h0; exact exch_br0 (ok := ok) @C HS a x y hok
    · by_cases h1 : k = 1
      · subst h1; exact exch_br1 (ok := ok) @C HS a x y hok
      · exact exch_br2 (ok := ok) @C HS k h0 h1 a x y hok
/-- what a def holds that notes what it is called with in the list at aF -/
noncomputable def SeenS (aF f' : Nat) (fobj : Obj) (c' : Nat) (oc : Obj) (cell : Nat) (ocell : Obj) (V : Addr → Obj → Prop) (l : List D) : Prop :=
  (∃ vs n, V aF (listOf vs.toArray n) ∧ Dvs V vs l) ∧ V f' fobj ∧ V c' oc ∧ V cell ocell
theorem seenS {aF f' : Nat} {fobj : Obj} {c' : Nat} {oc : Obj} {cell : Nat} {ocell : Obj} : ChgS [aF] (SeenS aF f' fobj c' oc cell ocell) where
  mono := fun hs ⟨⟨vs, n, a, b⟩, c, d, e⟩ => ⟨⟨vs, n, hs _ _ a, b.sub hs⟩, hs _ _ c, hs _ _ d, hs _ _ e⟩
  has := fun ⟨⟨vs, n, a, b⟩, _⟩ x hx => by rw [List.mem_singleton.mp hx]; exact ⟨_, a, list_ne⟩
theorem ne_data {h : Heap} {a b : Addr} {o o' : Obj} (x : h.get? a = some o) (y : h.get? b = some o') (n : o.data ≠ o'.data) : (@Ne Nat a b) := fun e => by
  subst e; rw [x] at y; cases y; exact n rfl
theorem dv_aft {V : Addr → Obj → Prop} {h h' : Heap} {Ms : List Nat} (hV : Sub V (Hv h)) (hM : ∀ a ∈ Ms, ∀ vs n, h.get? a ≠ some (tupOf vs n)) (k : Kp Ms h h') {v : Value} {d : D} (x : Dv V v d) : Dv (Aft V Ms h h') v d :=
  x.mono fun a vs n q => ⟨k.keep _ _ (hV _ _ q) fun m => hM a m _ _ (hV _ _ q), .inr (.inl q)⟩
theorem dvs_aft {V : Addr → Obj → Prop} {h h' : Heap} {Ms : List Nat} (hV : Sub V (Hv h)) (hM : ∀ a ∈ Ms, ∀ vs n, h.get? a ≠ some (tupOf vs n)) (k : Kp Ms h h') {v : List Value} {d : List D} (x : Dvs V v d) : Dvs (Aft V Ms h h') v d :=
  x.mono fun a vs n q => ⟨k.keep _ _ (hV _ _ q) fun m => hM a m _ _ (hV _ _ q), .inr (.inl q)⟩
theorem chg_seen {α : Type} {δ : α → D} {prog : Program} {w : World} {aF f' c' cell : Nat} {oc ocell : Obj} {name qual an : Str} {params : Arguments} {body : List Stmt} {scope : Scope} {cl : List (Str × Addr)} {doc pm ctv : Value} {vs' : Array Value} {t' : Tok}
    (hocd : oc.data = .fields vs') (hq : vs'[1]? = some (.str qual t')) (hcl : ocell.data = .cell (some (.ref aF)))
    (hbind : ∀ s v, BindsTo s (fnX name qual params body scope cl .none .none doc pm none (.ref c') ctv) ⟨[v], []⟩ [(an, v)]) (hloc : scope.names.lookup an = some .local) (hcell : ∀ x ∈ scope.names, x.2 ≠ .cell)
    (hco : scope.isCoroutine = false) (hgen : scope.isGenerator = false) (hk : scope.kind = .function)
    (turn : ∀ {A : Around} {s : Shared} {g h₁ : Heap} {L tk : Nat} {v : Value} {vs : List Value} {n : Nat} {Q : Flow → Shared → Prop}, A.handled = none → A.depth + 2 < 800 → A.units + 6 < 4500 → Fr g L h₁ (fun y => [(an, v)].reverse.lookup y) → News g L h₁ [(aF, listOf vs.toArray n)] → Base w g →
      g.get? cell = some ocell → vs.length ≤ 1000 → (∀ h' tk' n' m', Fr g L h' m' → News g L h' [(aF, listOf (vs ++ [v]).toArray n')] → Q (.ret v) { s with heap := h', toks := tk' }) →
      wpAny (model prog w) (A.deeper (envX qual scope L f' (.ref c') cl)) (execs body (envX qual scope L f' (.ref c') cl)) Q (fun _ _ => False) { s with heap := h₁, toks := tk }) :
    ChgSpec prog w f' [aF] (SeenS aF f' (fnMade name qual params body scope cl doc pm c' ctv) c' oc cell ocell) (fun _ => True) δ δ (fun x => [δ x]) 2 6 := by
  intro A s G R v x l V _ B kp hMs hV hS hv hbd hA hd hu h
  obtain ⟨⟨vs, n, va, dvs⟩, vf, vc, vcell⟩ := hS
  have hrm : A.depth < recursionLimit := Nat.lt_trans (by first | exact Nat.lt_of_le_of_lt (Nat.le_add_right _ _) (Nat.lt_trans hd (by decide)) | exact Nat.lt_of_le_of_lt hd (by decide) | lia) (show 800 < recursionLimit by decide)
  have n1 := ne_data (hV _ _ vf) (hV _ _ va) nofun
  have n2 := ne_data (hV _ _ vc) (hV _ _ va) (by rw [hocd]; nofun)
  have n3 := ne_data (hV _ _ vcell) (hV _ _ va) (by rw [hcl]; nofun)
  refine enterX (binds := [(an, v)]) B kp [(aF, listOf vs.toArray n)] (List.forall_mem_cons.mpr ⟨⟨hV _ _ va, hMs _ (by simp)⟩, List.forall_mem_nil _⟩) (hV _ _ vf) ⟨c', oc, vs', t', rfl, hV _ _ vc, hocd, hq⟩ hrm (hbind _ _)
    (List.forall_mem_cons.mpr ⟨hloc, List.forall_mem_nil _⟩) hcell ?_ hco hgen hk
  intro g h₁ hg1 hg2 F N B'
  have gt : ∀ {a o}, V a o → (@Ne Nat a aF) → g.get? a = some o := fun y z => hg1 _ _ (hV _ _ y) (by simpa using z)
  refine turn hA hd hu F N B' (gt vcell n3) ?_ fun h' tk' n' m' F' N' => ?_
  · have := dvs.length
    simp only [List.length_singleton] at hbd
    lia
  · have hM : ∀ a ∈ [aF], ∀ vs n, s.heap.get? a ≠ some (tupOf vs n) := fun a ha => by rw [List.mem_singleton.mp ha]; exact fun _ _ => list_not_tup (hV _ _ va)
    have k : Kp [aF] s.heap h' := ⟨fun b o e nb => F'.keep _ _ (hg1 _ _ e (by simpa using nb)), Nat.le_of_lt F'.ns.lt⟩
    have up : ∀ {a o}, V a o → (@Ne Nat a aF) → Aft V [aF] s.heap h' a o := fun y z => ⟨F'.keep _ _ (gt y z), .inr (.inl y)⟩
    have dv : Dv (Aft V [aF] s.heap h') v (δ x) := dv_aft hV hM k hv
    exact h h' tk' v k ⟨⟨vs ++ [v], n', ⟨N'.get (.head _), .inl (by simp)⟩, (dvs_aft hV hM k dvs).append (.one dv)⟩, up vf n1, up vc n2, up vcell n3⟩ dv
theorem bodies_len (st : St) : st.bodies.length ≤ 3 := by cases st <;> simp [St.bodies]
section
variable {prog : Program} {w : World} {A : Around} {E : Value → Shared → Prop} {s : Shared} {g : Heap} {L aF f' c' cell n : Nat} {m : Str → Option Value} {led rest : List (Addr × Obj)} {oc ocell : Obj} {mk : Str} {v : Value} {st : St}
  {name qual : Str} {params : Arguments} {body : List Stmt} {scope : Scope} {cl : List (Str × Addr)} {doc pm ctv : Value}
theorem call_exch_seen {Q : Value → Shared → Prop} (B : Base w g) (F : Fr g L s.heap m) (N : News g L s.heap led) (mF : (aF, listOf [].toArray n) ∈ led) (mf : (f', fnMade name qual params body scope cl doc pm c' ctv) ∈ led) (mc : s.heap.get? c' = some oc) (mcell : (cell, ocell) ∈ led)
    (hv : Dv (Hv g) v (st.toD mk)) (hr : Rest [aF] led rest) (hA : A.handled = none) (hd : A.depth + 5 < 800) (hu : A.units + 15 < 4500)
    (C : ChgSpec prog w f' [aF] (SeenS aF f' (fnMade name qual params body scope cl doc pm c' ctv) c' oc cell ocell) (fun _ => True) (fun x : List St => .tup (toDs mk x)) (fun x => .tup (toDs mk x)) (fun x => [.tup (toDs mk x)]) 2 6)
    (h : ∀ h' tk' r vs n' imm, Fr g L h' m → AllTup imm → News g L h' ((aF, listOf vs.toArray n') :: (rest ++ imm)) → Dvs (Lv g imm) vs (st.bodies.map fun x => .tup (toDs mk x)) → Q r { s with heap := h', toks := tk' }) :
    wpAny (model prog w) A (call (.ref 25) [v, .ref f']) Q E s := by
  have n1 := ne_data (N.get mf) (N.get mF) nofun
  refine wpAny_call (exch_all (mk := mk) (ok := fun _ => True) @C seenS st (fun _ _ => trivial) B F.keep (V := Hv s.heap) (l := []) (List.forall_mem_cons.mpr ⟨N.fresh mF, List.forall_mem_nil _⟩) (fun _ _ e => e) ⟨⟨[], n, N.get mF, .nil⟩, N.get mf, mc, N.get mcell⟩
    (hv.mono fun _ _ _ e => F.keep _ _ e) ?_ (by simpa using n1) ⟨_, _, _, _, N.get mf⟩ hA hd hu fun h' tk' r k S' d' => ?_)
  · have e1 : ∀ l : List (List St), (l.flatMap fun x => [D.tup (toDs mk x)]).length = l.length := fun l => by induction l with
      | nil => rfl
      | cons a r ih => rw [List.flatMap_cons, List.length_append, ih, List.length_cons]; simp [Nat.add_comm]
    rw [e1]
    have := bodies_len st
    simp only [List.length_nil]; lia
  · obtain ⟨⟨vs, n', a1, dv⟩, _⟩ := S'
    have hM : ∀ a ∈ [aF], ∃ o, (a, o) ∈ led ∧ o.cls ≠ .type "tuple" := List.forall_mem_cons.mpr ⟨⟨_, mF, list_ne⟩, List.forall_mem_nil _⟩
    obtain ⟨F', imm, ct, N', tot⟩ := back (mt := [(aF, listOf vs.toArray n')]) F N k hM hr (List.forall_mem_cons.mpr ⟨⟨a1.1, by simp⟩, List.forall_mem_nil _⟩)
    refine h h' tk' r vs n' imm F' ct N' ?_
    have e2 : ([] : List D) ++ st.bodies.flatMap (fun x => [D.tup (toDs mk x)]) = st.bodies.map fun x => D.tup (toDs mk x) := by
      rw [List.nil_append]
      generalize st.bodies = l
      induction l with
      | nil => rfl
      | cons a r ih => rw [List.flatMap_cons, List.map_cons, ih]; rfl
    rw [← e2]
    exact dv.mono fun a vs n q => tot a vs n q.1
end
theorem rulesOgBo : True := by
  w_top off
  k_with_none
  k_with "spliced" => ((with_reducible show wpAny _ _ (spliced (backTo _ (starEach (_ :: _) _))) _ _ _); k_dflt (refine' args_at ?ogF ?ogk ?ogv ?_; (case ogF => k_asm); (case ogk => rfl); (case ogv => rfl)); k_whole)
  k_with "eval Constant int" => refine int_at ?_
  k_with "eval Constant str" => refine str_at ?_
  k_with "eval Call" => (k_dflt (first | (refine' callK_at ?ogF ?ogX ?ogT ?oge ?ogf ?ogk ?ogg ?ogd ?ogv ?_; (case ogX => k_asm); (case ogT => k_asm); (case oge => k_is); (case ogf => k_is); (case ogg => rfl); (case ogd => rfl); (case ogF => k_asm); (case ogk => rfl); (case ogv => rfl); k_whole) | (refine' callB_at ?ogF ?ogX ?ogT ?oge ?ogb ?ogi ?ogn ?ogk ?ogg ?ogd ?ogv ?_; (case ogX => k_asm); (case ogT => k_asm); (case oge => k_is); (case ogb => boot_fast); (case ogi => rfl); (case ogn => decide); (case ogg => rfl); (case ogd => rfl); (case ogF => k_asm); (case ogk => rfl); (case ogv => rfl); k_whole)))
  k_with "eval Subscript" => (k_dflt (refine' sub_at ?ogF ?ogk ?ogv ?ogw ?_; (case ogF => k_asm); (case ogk => rfl); (case ogv => rfl); (case ogw => rfl)); k_whole)
  k_with "ite" => (k_closed; k_dflt (first | refine iteT rfl ?_ | refine iteF rfl ?_))
  k_with "isTrue Compare" => (k_dflt (refine' cmp_at ?ogF ?ogk ?ogv ?ogw ?ogb ?_; (case ogF => k_asm); (case ogk => rfl); (case ogv => rfl); (case ogw => rfl); (case ogb => rfl)); k_whole)
  k_with "execs cons" => ((with_reducible refine wpAny_execs_cons ?_); (try dsimp only); (try clear qk ek); (try k_fold))
  k_with "og_mem" => first | with_reducible assumption | (refine memI ?_; with_reducible assumption) | (refine List.mem_append_right _ ?_; k_mem) | (refine List.mem_append_left _ ?_; k_mem)
  k_with "og_neo" => first | exact neLt (by assumption) (by k_mem) | exact neGt (by assumption) (by k_mem) | (refine neN ?_; (try dsimp only); lia)
  k_with "og_ne" => first | assumption | exact Ne.symm (by assumption) | (k_extra "og_neo")
  k_with "og_all" => first | assumption | exact neAll (by assumption) (fun _ h => h) | exact neAll (by assumption) (by intro p hp; k_mem) | exact off1 (by assumption) (by assumption) | exact LCg_lt (by assumption) | exact offL (by assumption) (by k_mem) | exact off_tup (by assumption) (by assumption) (by intro p hp; k_mem) (by k_mem) | (refine List.forall_mem_append.mpr ⟨?_, ?_⟩ <;> k_all) | exact off1 (by assumption) (by lia)
  k_with "og_d" => first | exact dlt hd rfl rfl | exact dlt0 hd rfl rfl | exact dle hd rfl rfl | exact dle0 hd rfl rfl | exact dlq hd rfl rfl | exact dlq0 hd rfl rfl | exact dmk hd rfl | exact drk hd rfl | exact drk0 hd rfl | (simp only [depth_deeper, depth_in1]; lia)
  k_with "og_u" => first | exact dlt hu rfl rfl | exact dlt0 hu rfl rfl | exact dle hu rfl rfl | exact dle0 hu rfl rfl | exact dlq hu rfl rfl | exact dlq0 hu rfl rfl | exact umk hu rfl | exact urk hu rfl | exact urk0 hu rfl | (simp only [units_deeper, units_in1]; lia)
  k_with "og_memb" => (repeat' (first | exact List.forall_mem_nil _ | (intro p hp; k_mem; done) | refine List.forall_mem_append.mpr ⟨?_, ?_⟩ | refine List.forall_mem_cons.mpr ⟨?_, ?_⟩ | k_mem))
  k_with "og_peel" => ((try dsimp +zetaDelta only [List.nil_append, List.cons_append] at *); (repeat (first | clear ledk | clear mk | clear qk | clear ek)))
  k_with "newTuple" => (k_dflt (refine' newtup_le ?ogF ?ogN ?_ ?ogz; (case ogF => k_asm); (case ogN => k_asm); (case ogz => kmk_size)); intro _ _ ledk _ _ l1; (try (dsimp +zetaDelta only at l1; k_lt l1)); (try k_sweep); (try (revert l1; intros)))
  k_with "eval Tuple" => (k_dflt (refine' tup_le ?ogF ?ogN ?ogk ?ogv ?ogz ?_; (case ogN => k_asm); (case ogF => k_asm); (case ogk => rfl); (case ogv => rfl); (case ogz => kmk_size)); k_whole; intro _ _ ledk _ _ l1; (try (dsimp +zetaDelta only at l1; k_lt l1)); (try k_sweep); (try (revert l1; intros)))
  k_with "storeName" => (k_dflt (refine' store_le ?ogF ?ogN ?_ ?oga ?ogb; (case ogF => k_asm); (case ogN => k_asm); (case oga => rfl); (case ogb => rfl)); k_whole; intro _ mk _ _; (try k_sweep))
  k_with "call builtin:list.append" => ((with_reducible show wpAny _ _ (call (Value.builtin _) [Value.ref _, _]) _ _ _); k_dflt (refine' append_le ?ogF ?ogN ?ogU ?_ ?ogz; (case ogF => k_asm); (case ogN => k_asm); (case ogU => k_upd); (case ogz => ((try simp only [List.length_append, List.length_cons, List.length_nil]); lia))); k_whole; intro _ ledk _ _; (try k_sweep))
  k_with "eval Name" => (k_dflt (refine' nameX_Fg ?ogN ?ogc ?ogm ?ogd ?_ ?oga ?ogb; (case oga => rfl); (case ogb => rfl); (case ogN => k_asm); (case ogc => rfl); (case ogm => assumption); (case ogd => assumption)); k_whole)
  trivial
theorem dv_g {g h₀ : Heap} {led₀ : List (Addr × Obj)} (hg1 : ∀ b o, h₀.get? b = some o → b ∉ led₀.map (·.1) → g.get? b = some o) (hl : ∀ p ∈ led₀, h₀.get? p.1 = some p.2 ∧ p.2.cls ≠ .type "tuple") {v : Value} {d : D} (x : Dv (Hv h₀) v d) : Dv (Hv g) v d :=
  x.mono fun a vs n e => hg1 _ _ e fun q => by
    obtain ⟨p, hp, rfl⟩ := List.mem_map.mp q
    have := hl p hp
    rw [e] at this
    exact this.2 (congrArg Obj.cls (Option.some.inj this.1)).symm
noncomputable abbrev qualB : Str := Str.ofString "bodies_of.<locals>.seen"
theorem bodies_spec {prog : Program} {w : World} {A : Around} {s : Shared} {G : Heap} {R : Result → Shared → Prop} {v : Value} {st : St} {mk : Str} (B : Base w G) (kp : G.StaysIn s.heap) (gP : G.get? 27 = none) (T : TabV (Hv s.heap) 27 22 4 qualB)
    (hv : Dv (Hv s.heap) v (st.toD mk)) (hA : A.handled = none) (hd : A.depth + 20 < 800) (hu : A.units + 40 < 4500)
    (h : ∀ h' tk' a vs n, Kp [27] s.heap h' → TabV (Hv h') 27 22 4 qualB → s.heap.objs.size ≤ a → h'.get? a = some (listOf vs.toArray n) → Dvs (Hv h') vs (st.bodies.map fun x => .tup (toDs mk x)) → R (.ok (.ret (.ref a))) { s with heap := h', toks := tk' }) :
    codeAny (model prog w) A (.call (.ref 32) ⟨[v], []⟩) R s := by
  have hrm : A.depth < recursionLimit := Nat.lt_trans (by first | exact Nat.lt_of_le_of_lt (Nat.le_add_right _ _) (Nat.lt_trans hd (by decide)) | exact Nat.lt_of_le_of_lt hd (by decide) | lia) (show 800 < recursionLimit by decide)
  rcases T with hP | ⟨c', oc, vs, t, hP, hc, hcd, hcv⟩
  · refine' enterC (binds := [(Str.ofString "statement", v)]) B kp [(27, tabObj #[])] ?_ ?_ ?_ hrm ?_ ?_ ?_ ?_ ?_ ?_ ?_
    any_goals k_is
    any_goals (exact BindsTo.of_eq rfl)
    any_goals (first | rfl | decide)
    · exact List.forall_mem_cons.mpr ⟨⟨hP, gP⟩, List.forall_mem_nil _⟩
    intro g h₁ tk' cells hg1 hg2 F N Y l1 B'
    have gv := dv_g hg1 (List.forall_mem_cons.mpr ⟨⟨hP, tab_ne⟩, List.forall_mem_nil _⟩) hv
    obtain ⟨o1, hcs, c1⟩ := CellsAre.one Y
    subst hcs
    replace c1 : o1.data = .cell none := c1
    try simp only [List.cons_append, List.nil_append] at N
    have X := B'.X
    obtain ⟨p, loose, mean, mg, mb, Tp⟩ := B'.T
    have CH : CodeHd g 31 27 := codeAll_mem B'.C (31, 27) (by simp)
    have l27 : (27 : Nat) < s.heap.objs.size := Heap.lt_size hP
    clear kp B hg2 hrm Y hv
    k_steps
    all_goals (try dsimp only)
    k_extra "og_peel"
    rename_i l'_0 h'_0 l1_0 h'_1 o'_0 d'_0 f'_0 c'_0 oc'_0 vs'_0 t'_0 ct'_0 dc'_0 h'_2 tk'_0 d1'_0 d2'_0 l1_1 l2_0 h'_3 F'_0 N'_0
    refine' call_exch_seen (mk := mk) (st := st) (oc := oc'_0) (ocell := o'_0) (aF := l'_0) (cell := s.heap.objs.size + 1) B' ?F ?N ?mF ?mf ?mc ?mcell gv ?hr hA ?hd ?hu (chg_seen (an := Str.ofString "body") (vs' := vs'_0) (t' := t'_0) d1'_0 d2'_0 d'_0 ?hb ?c1 ?c2 ?c3 ?c4 ?c5 ?turn) ?h
    case F => k_asm
    case N => k_asm
    case mF => k_mem
    case mf => k_mem
    case mc => exact News.get (by k_asm) (by k_mem)
    case mcell => k_mem
    case hr => (repeat' (first | exact Rest.nil | (refine' Rest.skip ?r1 ?_; (case r1 => k_mem)) | (refine' Rest.keep ?r1 ?_; (case r1 => (repeat' (first | exact List.forall_mem_nil _ | (refine List.forall_mem_cons.mpr ⟨?_, ?_⟩) | assumption | exact Ne.symm (by assumption) | (k_extra "og_neo"))))) | (refine' Rest.app ?r1 ?_; (case r1 => assumption)) | (refine' Rest.tail ?r1; (case r1 => assumption))))
    case hd => k_extra "og_d"
    case hu => k_extra "og_u"
    case hb => exact fun s v => BindsTo.of_eq rfl
    case c1 => exact rfl
    case c2 => decide
    case c3 => exact rfl
    case c4 => exact rfl
    case c5 => exact rfl
    case turn =>
      clear h hA hd hu gv X Tp CH hP hg1 B'
      k_extra "og_peel"
      rename Fr _ _ _ _ => F9
      rename News _ _ _ _ => N9
      clear F9 N9
      intro A s g h₁ L tk v vs n Q hA hd hu F N B' gcell hlen hQ
      have X := B'.X
      obtain ⟨p, loose, mean, mg, mb, Tp⟩ := B'.T
      clear B'
      k_steps
      all_goals (try dsimp only)
      k_extra "og_peel"
      rename News _ _ _ _ => N8
      try rw [List.push_toArray] at N8
      exact hQ _ _ _ _ (by assumption) N8
    case h =>
      k_extra "og_peel"
      rename Fr _ _ _ _ => F9
      rename News _ _ _ _ => N9
      clear F9
      have N0 := N9
      clear N9
      intro h' tk' r vs1 n1 imm F' ct N' dv
      clear N0
      try simp only [List.cons_append, List.nil_append, List.append_assoc] at N'
      k_steps
      all_goals (try dsimp only)
      k_extra "og_peel"
      rename Fr _ _ _ _ => F9
      rename News _ _ _ _ => N9
      refine h _ _ _ _ _ (kp_fin hg1 F9 (by simp) (Nat.le_refl _)) ?tab ?fresh (N9.get (by k_mem)) (dvs_up F9 N9 (by (k_extra "og_memb")) dv)
      case fresh => lia
      case tab => exact .inr ⟨c'_0, oc'_0, vs'_0, t'_0, N9.get (by k_mem), N9.get (by k_mem), d1'_0, d2'_0⟩
  · refine' enterC (binds := [(Str.ofString "statement", v)]) B kp [(27, tabObj #[rawInt (22 : Nat), rawInt (4 : Nat), .ref c'])] ?_ ?_ ?_ hrm ?_ ?_ ?_ ?_ ?_ ?_ ?_
    any_goals k_is
    any_goals (exact BindsTo.of_eq rfl)
    any_goals (first | rfl | decide)
    · exact List.forall_mem_cons.mpr ⟨⟨hP, gP⟩, List.forall_mem_nil _⟩
    intro g h₁ tk' cells hg1 hg2 F N Y l1 B'
    have gv := dv_g hg1 (List.forall_mem_cons.mpr ⟨⟨hP, tab_ne⟩, List.forall_mem_nil _⟩) hv
    have gc := hg1 _ _ hc (by simpa using ne_data hc hP (by rw [hcd]; intro q; injection q with q; rw [q] at hcv; simp [rawInt] at hcv))
    have HC : g.CodeRec (.ref c') (qualB) := ⟨c', oc, vs, t, rfl, gc, hcd, hcv⟩
    obtain ⟨o1, hcs, c1⟩ := CellsAre.one Y
    subst hcs
    replace c1 : o1.data = .cell none := c1
    try simp only [List.cons_append, List.nil_append] at N
    have X := B'.X
    obtain ⟨p, loose, mean, mg, mb, Tp⟩ := B'.T
    have CH : CodeHd g 31 27 := codeAll_mem B'.C (31, 27) (by simp)
    have l27 : (27 : Nat) < s.heap.objs.size := Heap.lt_size hP
    clear kp B hg2 hrm Y hv
    k_steps
    all_goals (try dsimp only)
    k_extra "og_peel"
    rename_i l'_0 h'_0 l1_0 h'_1 o'_0 d'_0 f'_0 ct'_0 dc'_0 h'_2 tk'_0 l1_1 h'_3 F'_0 N'_0
    refine' call_exch_seen (mk := mk) (st := st) (oc := oc) (ocell := o'_0) (aF := l'_0) (cell := s.heap.objs.size + 1) B' ?F ?N ?mF ?mf ?mc ?mcell gv ?hr hA ?hd ?hu (chg_seen (an := Str.ofString "body") (vs' := vs) (t' := t) hcd hcv d'_0 ?hb ?c1 ?c2 ?c3 ?c4 ?c5 ?turn) ?h
    case F => k_asm
    case N => k_asm
    case mF => k_mem
    case mf => k_mem
    case mc => exact Fr.keep (by k_asm) _ _ gc
    case mcell => k_mem
    case hr => (repeat' (first | exact Rest.nil | (refine' Rest.skip ?r1 ?_; (case r1 => k_mem)) | (refine' Rest.keep ?r1 ?_; (case r1 => (repeat' (first | exact List.forall_mem_nil _ | (refine List.forall_mem_cons.mpr ⟨?_, ?_⟩) | assumption | exact Ne.symm (by assumption) | (k_extra "og_neo"))))) | (refine' Rest.app ?r1 ?_; (case r1 => assumption)) | (refine' Rest.tail ?r1; (case r1 => assumption))))
    case hd => k_extra "og_d"
    case hu => k_extra "og_u"
    case hb => exact fun s v => BindsTo.of_eq rfl
    case c1 => exact rfl
    case c2 => decide
    case c3 => exact rfl
    case c4 => exact rfl
    case c5 => exact rfl
    case turn =>
      clear h hA hd hu gv X Tp CH hP hg1 B'
      k_extra "og_peel"
      rename Fr _ _ _ _ => F9
      rename News _ _ _ _ => N9
      clear F9 N9
      intro A s g h₁ L tk v vs n Q hA hd hu F N B' gcell hlen hQ
      have X := B'.X
      obtain ⟨p, loose, mean, mg, mb, Tp⟩ := B'.T
      clear B'
      k_steps
      all_goals (try dsimp only)
      k_extra "og_peel"
      rename News _ _ _ _ => N8
      try rw [List.push_toArray] at N8
      exact hQ _ _ _ _ (by assumption) N8
    case h =>
      k_extra "og_peel"
      rename Fr _ _ _ _ => F9
      rename News _ _ _ _ => N9
      clear F9
      have N0 := N9
      clear N9
      intro h' tk' r vs1 n1 imm F' ct N' dv
      clear N0
      try simp only [List.cons_append, List.nil_append, List.append_assoc] at N'
      k_steps
      all_goals (try dsimp only)
      k_extra "og_peel"
      rename Fr _ _ _ _ => F9
      rename News _ _ _ _ => N9
      refine h _ _ _ _ _ (kp_fin hg1 F9 (by simp) (Nat.le_refl _)) ?tab ?fresh (N9.get (by k_mem)) (dvs_up F9 N9 (by (k_extra "og_memb")) dv)
      case fresh => lia
      case tab => exact .inr ⟨c', oc, vs, t, N9.get (by k_mem), F9.keep _ _ gc, hcd, hcv⟩
/-- the table's items ps: none, or the one code, which stands in the base or in the list nw -/
noncomputable def TabN (g : Heap) (nw : List (Addr × Obj)) (ps : Array Value) (line col : Nat) (qual : Str) : Prop :=
  ps = #[] ∨ ∃ c' oc vs t, ps = #[rawInt line, rawInt col, .ref c'] ∧ Lv g nw c' oc ∧ oc.data = .fields vs ∧ vs[1]? = some (.str qual t)
theorem TabN.mono {g : Heap} {nw nw' : List (Addr × Obj)} {ps : Array Value} {line col : Nat} {qual : Str} (h : ∀ p ∈ nw, p ∈ nw') : TabN g nw ps line col qual → TabN g nw' ps line col qual := fun T => by
  rcases T with a | ⟨c', oc, vs, t, a, b, r⟩
  · exact .inl a
  · exact .inr ⟨c', oc, vs, t, a, b.imp id (h _), r⟩
section
variable {g h h' : Heap} {L P a n : Nat} {m : Str → Option Value} {led rest nw : List (Addr × Obj)} {ps : Array Value} {pl pc : Nat} {q : Str} {vs : List Value}
theorem TabN.tabV (F : Fr g L h m) (N : News g L h led) (hm : (P, tabObj ps) ∈ led) (hn : ∀ p ∈ nw, p ∈ led) (T : TabN g nw ps pl pc q) : TabV (Hv h) P pl pc q := by
  rcases T with rfl | ⟨c', oc, vs, t, rfl, a, b⟩
  · exact .inl (N.get hm)
  · exact .inr ⟨c', oc, vs, t, N.get hm, a.elim (fun e => F.keep _ _ e) fun e => N.get (hn _ e), b⟩
theorem tabN_of {ps : Array Value} (hP : h.get? P = some (tabObj ps)) (hg : ∀ b o, h.get? b = some o → b ≠ P → g.get? b = some o) (T : TabV (Hv h) P pl pc q) : TabN g [] ps pl pc q := by
  rcases T with e | ⟨c', oc, vs, t, e, a, b1, b2⟩
  · have e : h.get? P = some (tabObj #[]) := e
    rw [hP] at e
    refine .inl ?_
    injection e with e; injection e with _ _ e; injection e
  · have e : h.get? P = some _ := e
    rw [hP] at e
    refine .inr ⟨c', oc, vs, t, ?_, .inl (hg _ _ a fun z => ?_), b1, b2⟩
    · injection e with e; injection e with _ _ e; injection e
    · have e2 : h.get? c' = some oc := a
      rw [z, hP] at e2
      cases e2
      injection b1 with b1
      injection e with e; injection e with _ _ e; injection e with e
      rw [← b1, e] at b2
      simp [rawInt] at b2
/-- the caller's frame and ledger behind a call that may grow the table at P and gives a new list at a -/
theorem back5 (F : Fr g L h m) (N : News g L h led) (k : Kp [P] h h') (hP : (P, tabObj ps) ∈ led) (hr : Rest [P] led rest) (T : TabV (Hv h') P pl pc q) (ha : h.objs.size ≤ a) (hl : h'.get? a = some (listOf vs.toArray n)) :
    Fr g L h' m ∧ ∃ nw ps', News g L h' ((P, tabObj ps') :: (a, listOf vs.toArray n) :: (rest ++ nw)) ∧ TabN g nw ps' pl pc q ∧ (∀ p ∈ nw, p.1 ≠ P) ∧ (∀ p ∈ nw, p.1 ≠ a) ∧ (∀ p ∈ nw, ∀ z ∈ led, (∃ its k, z.2 = listOf its k) → p.1 ≠ z.1) ∧ (∀ z ∈ led, z.1 < a) ∧ L < a ∧
      (∀ b vs n, h'.get? b = some (tupOf vs n) → Lv g nw b (tupOf vs n)) := by
  obtain ⟨F', imm, ct, N', tot⟩ := back (M := [P]) (mt := []) F N k (List.forall_mem_cons.mpr ⟨⟨_, hP, tab_ne⟩, List.forall_mem_nil _⟩) hr (List.forall_mem_nil _)
  simp only [List.nil_append] at N'
  have hL : L < a := Nat.lt_of_lt_of_le F.ns.lt ha
  have hlt : ∀ z ∈ led, z.1 < a := fun z hz => Nat.lt_of_lt_of_le (Heap.lt_size (N z hz).1) ha
  have hga : g.get? a = none := by
    cases e : g.get? a with
    | none => rfl
    | some o => exact absurd (Heap.lt_size (F.keep _ _ e)) (Nat.not_lt.mpr ha)
  obtain ⟨ps', hP'⟩ := T.has
  have hPn := N (P, tabObj ps) hP
  have hPL : h'.get? P = some (tabObj ps') := hP'
  -- the code
  have code : ∃ nc : List (Addr × Obj), TabN g nc ps' pl pc q ∧ (∀ p ∈ nc, h'.get? p.1 = some p.2 ∧ p.1 ≠ L ∧ g.get? p.1 = none) ∧ (∀ p ∈ nc, ∃ vs t, p.2.data = .fields vs ∧ vs[1]? = some (.str q t)) := by
    rcases T with e | ⟨c', oc, vs, t, e, b1, b2, b3⟩
    · have e : h'.get? P = some _ := e
      rw [hPL] at e
      exact ⟨[], .inl (by injection e with e; injection e with _ _ e; injection e), List.forall_mem_nil _, List.forall_mem_nil _⟩
    · have e : h'.get? P = some _ := e
      rw [hPL] at e
      have e3 : ps' = #[rawInt pl, rawInt pc, .ref c'] := by injection e with e; injection e with _ _ e; injection e
      cases z : g.get? c' with
      | some o =>
        have := F'.keep _ _ z
        have b1 : h'.get? c' = some oc := b1
        rw [b1] at this; cases this
        exact ⟨[], .inr ⟨c', _, vs, t, e3, .inl z, b2, b3⟩, List.forall_mem_nil _, List.forall_mem_nil _⟩
      | none =>
        refine ⟨[(c', oc)], .inr ⟨c', oc, vs, t, e3, .inr (.head _), b2, b3⟩, List.forall_mem_cons.mpr ⟨⟨b1, fun hh => ?_, z⟩, List.forall_mem_nil _⟩, List.forall_mem_cons.mpr ⟨⟨vs, t, b2, b3⟩, List.forall_mem_nil _⟩⟩
        obtain ⟨o, es, ep, ho, hd, _⟩ := F'.ns
        have b1 : h'.get? c' = some oc := b1
        have hh : c' = L := hh
        rw [hh, ho] at b1; cases b1; rw [hd] at b2; cases b2
  obtain ⟨nc, Tn, Nc, Dc⟩ := code
  have nl : ∀ p ∈ imm ++ nc, ∀ b, (∃ its k, h'.get? b = some (listOf its k)) → p.1 ≠ b := fun p hp b hb e => by
    obtain ⟨its, k, hb⟩ := hb
    rcases List.mem_append.mp hp with hp | hp
    · have e1 := (N' p (List.mem_append_right _ hp)).1
      rw [e, hb] at e1
      have := ct p hp
      rw [← Option.some.inj e1] at this
      exact absurd (Value.type.inj this) (by decide)
    · have e1 := (Nc p hp).1
      rw [e, hb] at e1
      obtain ⟨vs, t, d1, _⟩ := Dc p hp
      rw [← Option.some.inj e1] at d1
      cases d1
  refine ⟨F', imm ++ nc, ps', fun p hp => ?_, Tn.mono fun p hp => List.mem_append_right _ hp, fun p hp e => ?_, fun p hp => nl p hp a ⟨_, _, hl⟩, fun p hp z hz hc => ?_, hlt, hL, fun b vs n e => (tot b vs n e).imp id fun y => List.mem_append_left _ y⟩
  · simp only [List.mem_cons, List.mem_append] at hp
    rcases hp with rfl | rfl | hp | hp | hp
    · exact ⟨hPL, hPn.2⟩
    · exact ⟨hl, Nat.ne_of_gt hL, hga⟩
    · exact N' p (List.mem_append_left _ hp)
    · exact N' p (List.mem_append_right _ hp)
    · exact Nc p hp
  · rcases List.mem_append.mp hp with hp | hp
    · have e1 := (N' p (List.mem_append_right _ hp)).1
      rw [e, hPL] at e1
      have := ct p hp
      rw [← Option.some.inj e1] at this
      cases this
    · have e1 := (Nc p hp).1
      rw [e, hPL] at e1
      obtain ⟨vs, t, d1, d2⟩ := Dc p hp
      rw [← Option.some.inj e1] at d1
      injection d1 with d1
      rcases Tn with z | ⟨c', oc, vs2, t2, z, _⟩
      · rw [← d1, z] at d2; simp at d2
      · rw [← d1, z] at d2; simp [rawInt] at d2
  · obtain ⟨its, kk, hc⟩ := hc
    have hzP : z.1 ≠ P := fun hzP => by
      have e1 := (N z hz).1
      rw [hzP, hPn.1] at e1
      rw [← Option.some.inj e1] at hc; cases hc
    have e1 := k.keep _ _ (N z hz).1 (by simpa using hzP)
    rw [hc] at e1
    exact nl p hp z.1 ⟨_, _, e1⟩
end
section
variable {prog : Program} {w : World} {A : Around} {E : Value → Shared → Prop} {s : Shared} {g : Heap} {L a n : Nat} {m : Str → Option Value} {led rest nw0 : List (Addr × Obj)} {ps : Array Value} {mk : Str} {v : Value} {st : St}
theorem call_bodies {Q : Value → Shared → Prop} (B : Base w g) (F : Fr g L s.heap m) (N : News g L s.heap led) (hP : (27, tabObj ps) ∈ led) (T : TabN g nw0 ps 22 4 qualB) (hn : ∀ p ∈ nw0, p ∈ led) (hv : Dv (Hv s.heap) v (st.toD mk)) (hr : Rest [27] led rest)
    (hA : A.handled = none) (hd : A.depth + 20 < 800) (hu : A.units + 40 < 4500)
    (h : ∀ h' tk' a vs n nw ps', Fr g L h' m → News g L h' ((27, tabObj ps') :: (a, listOf vs.toArray n) :: (rest ++ nw)) → TabN g nw ps' 22 4 qualB → (∀ p ∈ nw, p.1 ≠ 27) → (∀ p ∈ nw, p.1 ≠ a) → (∀ p ∈ nw, ∀ z ∈ led, (∃ its k, z.2 = listOf its k) → p.1 ≠ z.1) →
      (∀ z ∈ led, z.1 < a) → L < a → Dvs (Lv g nw) vs (st.bodies.map fun x => .tup (toDs mk x)) → Q (.ref a) { s with heap := h', toks := tk' }) :
    wpAny (model prog w) A (call (.ref 32) [v]) Q E s := by
  refine wpAny_call (bodies_spec B F.keep (N.fresh hP) (T.tabV F N hP hn) hv hA hd hu fun h' tk' a vs n k T' ha hl dv => ?_)
  obtain ⟨F', nw, ps', N', Tn, o1, o2, o3, o4, o5, tot⟩ := back5 F N k hP hr T' ha hl
  exact h h' tk' a vs n nw ps' F' N' Tn o1 o2 o3 o4 o5 (dv.mono tot)
theorem tups_of {P : Addr → Obj → Prop} {h : Heap} (hP : ∀ b vs n, P b (tupOf vs n) → h.get? b = some (tupOf vs n)) : ∀ {xs : List (List St)} {vs : List Value}, Dvs P vs (xs.map fun x => .tup (toDs mk x)) → ∃ vss, Tups h vs vss ∧ Dvs P vss.flatten (xs.flatten.map (St.toD mk)) := fun {xs} => by
  induction xs with
  | nil => intro vs x; obtain rfl : vs = [] := x.inv; exact ⟨[], .nil, .nil⟩
  | cons x xs ih =>
    intro vs dv
    obtain ⟨v, vr, d, dr⟩ : ConsI P (.tup (toDs mk x)) _ vs := dv.inv
    obtain ⟨a, ws, n, p, r⟩ : DvTup P (toDs mk x) v := d.inv
    obtain ⟨vss, T, d⟩ := ih dr
    refine ⟨_ :: vss, .cons (hP _ _ _ p) T, ?_⟩
    rw [List.flatten_cons, List.flatten_cons, List.map_append, ← toDs_map]
    exact r.append d
theorem flat_src {P : Addr → Obj → Prop} {Q : Value → Shared → Prop} {vs : List Value} {xs : List (List St)} (F : Fr g L s.heap m) (N : News g L s.heap led) (hm : (a, listOf vs.toArray n) ∈ led) (hP : ∀ b vs n, P b (tupOf vs n) → s.heap.get? b = some (tupOf vs n))
    (dv : Dvs P vs (xs.map fun x => .tup (toDs mk x))) (h1 : xs.length ≤ 1000) (h2 : xs.flatten.length ≤ 1000)
    (h : ∀ D h' tk ys, Fr g L h' m → News g L h' ((D, listOf ys.toArray ys.length) :: led) → (∀ p ∈ led, p.1 < D) → L < D → s.heap.objs.size ≤ D → Dvs P ys (xs.flatten.map (St.toD mk)) → Q (.ref D) { s with heap := h', toks := tk }) :
    FlatSrc g L m Q (.ref a) s := by
  obtain ⟨vss, T, d⟩ := tups_of hP dv
  have e1 := dv.length
  have e2 := d.length
  simp only [List.length_map] at e1 e2
  refine ⟨a, vs, vss, rfl, F, isl N hm, T, by lia, by lia, fun D h' tk F' k hD e => ?_⟩
  have hL : L < D := Nat.lt_of_lt_of_le F.ns.lt hD
  refine h D h' tk vss.flatten F' (fun p hp => ?_) (fun p hp => Nat.lt_of_lt_of_le (Heap.lt_size (N p hp).1) hD) hL hD d
  rcases List.mem_cons.mp hp with rfl | hp
  · refine ⟨e, Nat.ne_of_gt hL, ?_⟩
    cases z : g.get? D with
    | none => rfl
    | some o => exact absurd (Heap.lt_size (F.keep _ _ z)) (Nat.not_lt.mpr hD)
  · exact ⟨k _ _ (N p hp).1, (N p hp).2⟩
end
theorem offs1 {nw : List (Addr × Obj)} {a : Nat} (h : ∀ p ∈ nw, p.1 ≠ a) : ∀ p ∈ nw, ∀ b ∈ [a], p.1 ≠ b := fun p hp b hb => by rw [List.mem_singleton.mp hb]; exact h p hp
theorem offL {nw led : List (Addr × Obj)} {a : Nat} {its : Array Value} {k : Nat} (h : ∀ p ∈ nw, ∀ z ∈ led, (∃ its k, z.2 = listOf its k) → p.1 ≠ z.1) (hm : (a, listOf its k) ∈ led) : ∀ p ∈ nw, p.1 ≠ a := fun p hp => h p hp _ hm ⟨_, _, rfl⟩
theorem rulesOgParts : True := by
  w_top off
  k_with_none
  k_with "spliced" => ((with_reducible show wpAny _ _ (spliced (backTo _ (starEach (_ :: _) _))) _ _ _); k_dflt (refine' args_at ?ogF ?ogk ?ogv ?_; (case ogF => k_asm); (case ogk => rfl); (case ogv => rfl)); k_whole)
  k_with "eval Constant int" => refine int_at ?_
  k_with "eval Constant str" => refine str_at ?_
  k_with "eval Call" => (k_dflt (first | (refine' callK_at ?ogF ?ogX ?ogT ?oge ?ogf ?ogk ?ogg ?ogd ?ogv ?_; (case ogX => k_asm); (case ogT => k_asm); (case oge => k_is); (case ogf => k_is); (case ogg => rfl); (case ogd => rfl); (case ogF => k_asm); (case ogk => rfl); (case ogv => rfl); k_whole) | (refine' callB_at ?ogF ?ogX ?ogT ?oge ?ogb ?ogi ?ogn ?ogk ?ogg ?ogd ?ogv ?_; (case ogX => k_asm); (case ogT => k_asm); (case oge => k_is); (case ogb => boot_fast); (case ogi => rfl); (case ogn => decide); (case ogg => rfl); (case ogd => rfl); (case ogF => k_asm); (case ogk => rfl); (case ogv => rfl); k_whole)))
  k_with "eval Subscript" => (k_dflt (refine' sub_at ?ogF ?ogk ?ogv ?ogw ?_; (case ogF => k_asm); (case ogk => rfl); (case ogv => rfl); (case ogw => rfl)); k_whole)
  k_with "ite" => (k_closed; k_dflt (first | refine iteT rfl ?_ | refine iteF rfl ?_))
  k_with "isTrue Compare" => (k_dflt (refine' cmp_at ?ogF ?ogk ?ogv ?ogw ?ogb ?_; (case ogF => k_asm); (case ogk => rfl); (case ogv => rfl); (case ogw => rfl); (case ogb => rfl)); k_whole)
  k_with "og_mem" => first | with_reducible assumption | (refine memI ?_; with_reducible assumption) | (refine List.mem_append_right _ ?_; k_mem) | (refine List.mem_append_left _ ?_; k_mem)
  k_with "og_neo" => first | exact neLt (by assumption) (by k_mem) | exact neGt (by assumption) (by k_mem) | (refine neN ?_; (try dsimp only); lia)
  k_with "og_ne" => first | assumption | exact Ne.symm (by assumption) | (k_extra "og_neo")
  k_with "og_all" => first | assumption | exact neAll (by assumption) (fun _ h => h) | exact neAll (by assumption) (by intro p hp; k_mem) | exact off1 (by assumption) (by assumption) | exact LCg_lt (by assumption) | exact offL (by assumption) (by k_mem) | exact off_tup (by assumption) (by assumption) (by intro p hp; k_mem) (by k_mem) | (refine List.forall_mem_append.mpr ⟨?_, ?_⟩ <;> k_all) | exact off1 (by assumption) (by lia)
  k_with "og_d" => first | exact dlt hd rfl rfl | exact dlt0 hd rfl rfl | exact dle hd rfl rfl | exact dle0 hd rfl rfl | exact dlq hd rfl rfl | exact dlq0 hd rfl rfl | exact dmk hd rfl | exact drk hd rfl | exact drk0 hd rfl | (simp only [depth_deeper, depth_in1]; lia)
  k_with "og_u" => first | exact dlt hu rfl rfl | exact dlt0 hu rfl rfl | exact dle hu rfl rfl | exact dle0 hu rfl rfl | exact dlq hu rfl rfl | exact dlq0 hu rfl rfl | exact umk hu rfl | exact urk hu rfl | exact urk0 hu rfl | (simp only [units_deeper, units_in1]; lia)
  k_with "og_memb" => (repeat' (first | exact List.forall_mem_nil _ | (intro p hp; k_mem; done) | refine List.forall_mem_append.mpr ⟨?_, ?_⟩ | refine List.forall_mem_cons.mpr ⟨?_, ?_⟩ | k_mem))
  k_with "og_peel" => ((try dsimp +zetaDelta only [List.nil_append, List.cons_append] at *); (repeat (first | clear ledk | clear mk | clear qk | clear ek)))
  k_with "newTuple" => (k_dflt (refine' newtup_le ?ogF ?ogN ?_ ?ogz; (case ogF => k_asm); (case ogN => k_asm); (case ogz => kmk_size)); intro _ _ ledk _ _ l1; (try (dsimp +zetaDelta only at l1; k_lt l1)); (try k_sweep); (try (revert l1; intros)))
  k_with "eval Tuple" => (k_dflt (refine' tup_le ?ogF ?ogN ?ogk ?ogv ?ogz ?_; (case ogN => k_asm); (case ogF => k_asm); (case ogk => rfl); (case ogv => rfl); (case ogz => kmk_size)); k_whole; intro _ _ ledk _ _ l1; (try (dsimp +zetaDelta only at l1; k_lt l1)); (try k_sweep); (try (revert l1; intros)))
  k_with "storeName" => (k_dflt (refine' store_le ?ogF ?ogN ?_ ?oga ?ogb; (case ogF => k_asm); (case ogN => k_asm); (case oga => rfl); (case ogb => rfl)); k_whole; intro _ mk _ _; (try k_sweep))
  k_with "call builtin:list.append" => ((with_reducible show wpAny _ _ (call (Value.builtin _) [Value.ref _, _]) _ _ _); k_dflt (refine' append_le ?ogF ?ogN ?ogU ?_ ?ogz; (case ogF => k_asm); (case ogN => k_asm); (case ogU => k_upd); (case ogz => ((try simp only [List.length_append, List.length_cons, List.length_nil]); lia))); k_whole; intro _ ledk _ _; (try k_sweep))
  k_with "eval Name" => (k_dflt (refine' nameX_Fg ?ogN ?ogc ?ogm ?ogd ?_ ?oga ?ogb; (case oga => rfl); (case ogb => rfl); (case ogN => k_asm); (case ogc => rfl); (case ogm => assumption); (case ogd => assumption)); k_whole)
  k_with "call ref" => (k_dflt (refine' call_bodies ?ogb0 ?ogF ?ogN ?ogP ?ogT ?ogn ?ogv ?ogr ?ogA ?ogd ?ogu ?_; (case ogb0 => assumption); (case ogF => k_asm); (case ogN => k_asm); (case ogP => k_mem); (case ogT => assumption); (case ogn => (k_extra "og_memb")); (case ogv => first | with_reducible assumption | exact dv_up (by k_asm) (by k_asm) (by (k_extra "og_memb")) (by with_reducible assumption)); (case ogr => (repeat' (first | exact Rest.nil | (refine' Rest.skip ?ogr1 ?_; (case ogr1 => k_mem)) | (refine' Rest.keep ?ogr1 ?_; (case ogr1 => (repeat' (first | exact List.forall_mem_nil _ | (refine List.forall_mem_cons.mpr ⟨?_, ?_⟩) | assumption | exact Ne.symm (by assumption) | (k_extra "og_neo"))))) | (refine' Rest.app ?ogr1 ?_; (case ogr1 => assumption)) | (refine' Rest.tail ?ogr1; (case ogr1 => assumption)) | (refine' Rest.offApp ?ogr1 ?_; (case ogr1 => (first | assumption | exact offs1 (by assumption)))) | (refine' Rest.off ?ogr1; (case ogr1 => (first | assumption | exact offs1 (by assumption))))))); (case ogA => k_asm); (case ogd => (k_extra "og_d")); (case ogu => (k_extra "og_u")); k_whole); intro h' tk' a' vs' n' nw' ps' F' N' T' o1 o2 o3 o4 o5 dv'; (try dsimp only); (try simp only [List.cons_append, List.nil_append, List.append_assoc] at N'); (try k_lt o4); (try k_sweep); (try (revert h' tk' a' vs' n' nw' ps' F' N' T' o1 o2 o3 o4 o5 dv'; intros)))
  k_with "eval ListComp" => (k_dflt (refine' comp_flat ?ogF0 ?ogh1 ?ogh2 ?ogh3 ?ogh4 ?ogh5 ?ogh6 ?ogh7 ?_ ?ogh9 ?ogh10 ?oghs; (case ogF0 => k_asm); (case ogh1 => exact rfl); (case ogh2 => decide); (case ogh3 => exact rfl); (case ogh4 => decide); (case ogh5 => exact rfl); (case ogh6 => exact rfl); (case ogh7 => k_asm); (case ogh9 => decide); (case ogh10 => decide); (case oghs => (intro _; rfl)); k_whole))
  trivial
theorem parts_spec {prog : Program} {w : World} {A : Around} {s : Shared} {G : Heap} {R : Result → Shared → Prop} {v : Value} {st : St} {mk : Str} (B : Base w G) (kp : G.StaysIn s.heap) (gP : G.get? 27 = none) (T : TabV (Hv s.heap) 27 22 4 qualB)
    (hv : Dv (Hv s.heap) v (st.toD mk)) (hb : st.bodies.flatten.length ≤ 1000) (hA : A.handled = none) (hd : A.depth + 30 < 800) (hu : A.units + 60 < 4500)
    (h : ∀ h' tk' a vs, Kp [27] s.heap h' → TabV (Hv h') 27 22 4 qualB → s.heap.objs.size ≤ a → h'.get? a = some (listOf vs.toArray vs.length) → Dvs (Hv h') vs (st.bodies.flatten.map (St.toD mk)) → R (.ok (.ret (.ref a))) { s with heap := h', toks := tk' }) :
    codeAny (model prog w) A (.call (.ref 37) ⟨[v], []⟩) R s := by
  have hrm : A.depth < recursionLimit := Nat.lt_trans (by first | exact Nat.lt_of_le_of_lt (Nat.le_add_right _ _) (Nat.lt_trans hd (by decide)) | exact Nat.lt_of_le_of_lt hd (by decide) | lia) (show 800 < recursionLimit by decide)
  obtain ⟨ps, hP⟩ := T.has
  refine' enter (binds := [(Str.ofString "statement", v)]) B kp [(27, tabObj ps)] ?_ ?_ ?_ hrm ?_ ?_ ?_ ?_ ?_ ?_ ?_
  any_goals k_is
  any_goals (exact BindsTo.of_eq rfl)
  any_goals (exact locs rfl)
  any_goals (first | rfl | decide)
  · exact List.forall_mem_cons.mpr ⟨⟨hP, gP⟩, List.forall_mem_nil _⟩
  intro g h₁ hg1 hg2 F N B'
  have gv := dv_g hg1 (List.forall_mem_cons.mpr ⟨⟨hP, tab_ne⟩, List.forall_mem_nil _⟩) hv
  have gT : TabN g [] ps 22 4 qualB := tabN_of hP (fun b o e n => hg1 b o e (by simpa using n)) T
  replace gv : Dv (Lv g []) v (st.toD mk) := gv.mono fun _ _ _ e => .inl e
  have X := B'.X
  obtain ⟨p, loose, mean, mg, mb, Tp⟩ := B'.T
  have l27 : (27 : Nat) < s.heap.objs.size := Heap.lt_size hP
  have hbl : st.bodies.length ≤ 3 := bodies_len st
  clear kp B hg2 hrm hv T
  k_steps
  all_goals (try dsimp only)
  k_extra "og_peel"
  rename_i h'_0 tk'_0 a'_0 vs'_0 n'_0 nw'_0 ps'_0 F'_0 N'_0 T'_0 o1_0 o2_0 o3_0 o5_0 dv'_0 o4_0
  refine flat_src F'_0 N'_0 (by k_mem) (fun b vs n x => lv_get F'_0 N'_0 (by (k_extra "og_memb")) x) dv'_0 (by lia) hb fun D h' tk ys F' N' l1 l2 l3 dy => ?_
  refine h h' tk D ys (kp_fin hg1 F' (by simp) (Nat.le_refl _)) (TabN.tabV F' N' (by k_mem) (by (k_extra "og_memb")) T'_0) (Nat.le_of_lt l2) (N'.get (by k_mem)) (dvs_up F' N' (by (k_extra "og_memb")) dy)
mutual
noncomputable def D.hgt : D → Nat
  | .none => 0
  | .bool _ => 0
  | .int _ => 0
  | .str _ => 0
  | .bytes _ => 0
  | .tup ds => hgts ds + 1
noncomputable def hgts : List D → Nat
  | [] => 0
  | d :: ds => max d.hgt (hgts ds)
end
section
variable {A : Around} {s : Shared}
theorem rc_bytes (b c : Array UInt8) (t u : Tok) : RcAt A s (.bytes b t) (.bytes c u) (b.toList == c.toList) := fun prog w E Q h =>
  richCompare_gives (typeIs_bytes s b t) (typeIs_bytes s c u) FB.slot_bytes_eq FB.entry_bytes_eq (FB.args_bytes_eq_2 _ _) (gives_bytes_eq b c t u) (fun x => nomatch x) h
theorem eq_bytes_same (b : Array UInt8) (t u : Tok) : EqAt A s (.bytes b t) (.bytes b u) true := fun prog w E Q h => by
  unfold eqBool
  refine wpAny_holding ?_
  refine wpAny_ite_split (fun hab => ?_) (fun _ => ?_)
  · exact wpAny_bind (wpAny_rule (wpAny_pure h))
  · exact wpAny_bind (rc_bytes b b t u prog w E _ (by rw [beq_self_eq_true]; exact wpAny_truthy_bool h))
theorem tupOf_inj {vs vs' : List Value} {n n' : Nat} (h : tupOf vs n = tupOf vs' n') : vs = vs' := by
  injection h with _ _ h3; injection h3 with h4; exact congrArg Array.toList h4
theorem Dv.unique {P : Addr → Obj → Prop} (hP : ∀ a o o', P a o → P a o' → o = o') {v : Value} {d d' : D} (h : Dv P v d) (k : Dv P v d') : d = d' := by
  refine Dv.rec (motive_1 := fun v d _ => ∀ d', Dv P v d' → d = d') (motive_2 := fun vs ds _ => ∀ ds', Dvs P vs ds' → ds = ds') ?_ ?_ ?_ ?_ ?_ ?_ ?_ ?_ h d' k
  · exact fun d' k => k.out
  · exact fun _ d' k => k.out
  · exact fun _ _ d' k => k.out
  · exact fun _ _ d' k => k.out
  · exact fun _ _ d' k => k.out
  · intro a vs _ _ p _ ih d' k
    obtain ⟨ws, n', ds', rfl, p', r'⟩ := k.out
    rw [ih _ (tupOf_inj (hP _ _ _ p p') ▸ r')]
  · exact fun ds' k => k.out
  · intro _ _ _ _ _ _ i1 i2 ds' k
    obtain ⟨d, r, rfl, p', r'⟩ := k.out
    rw [i1 _ p', i2 _ r']
theorem Dvs.unique {P : Addr → Obj → Prop} (hP : ∀ a o o', P a o → P a o' → o = o') {vs : List Value} {ds ds' : List D} (h : Dvs P vs ds) (k : Dvs P vs ds') : ds = ds' := by
  refine Dvs.ind (M := fun vs ds => ∀ ds', Dvs P vs ds' → ds = ds') ?_ ?_ h ds' k
  · exact fun ds' k => k.out
  · intro _ _ _ _ p _ ih ds' k
    obtain ⟨d, r, rfl, p', r'⟩ := k.out
    rw [Dv.unique hP p p', ih _ r']
theorem all_true (n : Nat) : (List.range n).all (fun _ => true) = true := by simp
theorem rc_tup {a b : Nat} {vs ws : List Value} {n n' : Nat} (ha : s.heap.get? a = some (tupOf vs n)) (hb : s.heap.get? b = some (tupOf ws n')) (hl : vs.length = ws.length) (hu : A.units < cLine)
    (he : ∀ j (h1 : j < vs.length) (h2 : j < ws.length), EqAt A.in1 s vs[j] ws[j] true) : RcAt A s (.ref a) (.ref b) true := by
  have := RcAt.tuples (e := fun _ => true) (A := A) (s := s) (l := a) (b := b) (items := vs.toArray) (items2 := ws.toArray) ⟨_, ha, rfl, _, rfl⟩ ⟨_, hb, rfl, _, rfl⟩ hu (fun j j1 j2 => by
    have := he j (by simpa using j1) (by simpa using j2); simpa using this)
  rw [all_true] at this
  simpa [hl] using this
theorem eqD {v : Value} {d : D} (h : Dv (Hv s.heap) v d) : ∀ (A : Around) (v' : Value), Dv (Hv s.heap) v' d → A.units + d.hgt < cLine → EqAt A s v v' true := by
  refine Dv.rec (motive_1 := fun v d _ => ∀ (A : Around) (v' : Value), Dv (Hv s.heap) v' d → A.units + d.hgt < cLine → EqAt A s v v' true)
    (motive_2 := fun vs ds _ => ∀ (A : Around) (ws : List Value), Dvs (Hv s.heap) ws ds → A.units + hgts ds < cLine → ∀ j (h1 : j < vs.length) (h2 : j < ws.length), EqAt A s vs[j] ws[j] true) ?_ ?_ ?_ ?_ ?_ ?_ ?_ ?_ h
  · intro A v' k _
    obtain rfl : v' = _ := k.inv
    exact EqAt.same _
  · intro b A v' k _
    obtain rfl : v' = _ := k.inv
    exact EqAt.same _
  · intro i t A v' k _
    obtain ⟨t', rfl⟩ : ∃ t, v' = .int i t := k.inv
    have := EqAt.int_int (A := A) (s := s) i t i t'
    rwa [beq_self_eq_true] at this
  · intro x t A v' k _
    obtain ⟨t', rfl⟩ : ∃ t, v' = .str x t := k.inv
    have := EqAt.str_str (A := A) (s := s) x t x t'
    rwa [beq_self_eq_true] at this
  · intro b t A v' k _
    obtain ⟨t', rfl⟩ : ∃ t, v' = .bytes b t := k.inv
    exact eq_bytes_same b t t'
  · intro a vs n ds p r ih A v' k hu
    obtain ⟨b, ws, n', p', r'⟩ : DvTup _ ds v' := k.inv
    have hu : A.units + (hgts ds + 1) < cLine := hu
    by_cases hab : a = b
    · subst hab; exact EqAt.same _
    · exact EqAt.of_refs hab (rc_tup p p' (by rw [r.length, r'.length]) (Nat.lt_of_le_of_lt (Nat.le_add_right _ _) hu) (ih A.in1 ws r' (by rw [units_in1, Nat.add_right_comm]; exact hu)))
  · intro _ _ _ _ j h1
    exact absurd h1 (Nat.not_lt_zero _)
  · intro v vs d ds _ _ i1 i2 A ws k hu j h1 h2
    obtain ⟨w, ws, p', r'⟩ : ConsI _ d ds ws := k.inv
    have hu : A.units + max d.hgt (hgts ds) < cLine := hu
    exact Nat.casesOn (motive := fun j => ∀ (h1 : j < (v :: vs).length) (h2 : j < (w :: ws).length), EqAt A s (v :: vs)[j] (w :: ws)[j] true) j (fun _ _ => i1 A w p' (Nat.lt_of_le_of_lt (Nat.add_le_add_left (Nat.le_max_left _ _) _) hu))
      (fun j h1 h2 => i2 A ws r' (Nat.lt_of_le_of_lt (Nat.add_le_add_left (Nat.le_max_right _ _) _) hu) j (Nat.lt_of_succ_lt_succ h1) (Nat.lt_of_succ_lt_succ h2)) h1 h2
theorem eqDs (ds : List D) {A : Around} {vs ws : List Value} (h : Dvs (Hv s.heap) vs ds) : Dvs (Hv s.heap) ws ds → A.units + hgts ds < cLine → ∀ j (h1 : j < vs.length) (h2 : j < ws.length), EqAt A s vs[j] ws[j] true := by
  refine Dvs.ind (M := fun vs ds => ∀ ws, Dvs (Hv s.heap) ws ds → A.units + hgts ds < cLine → ∀ j (h1 : j < vs.length) (h2 : j < ws.length), EqAt A s vs[j] ws[j] true) (fun _ _ _ j h1 => absurd h1 (Nat.not_lt_zero _)) (fun v vs d ds p _ ih ws k hu j h1 h2 => ?_) h ws
  obtain ⟨w, ws, p', r'⟩ : ConsI _ d ds ws := k.inv
  have hu : A.units + max d.hgt (hgts ds) < cLine := hu
  exact Nat.casesOn (motive := fun j => ∀ (h1 : j < (v :: vs).length) (h2 : j < (w :: ws).length), EqAt A s (v :: vs)[j] (w :: ws)[j] true) j (fun _ _ => eqD p A w p' (Nat.lt_of_le_of_lt (Nat.add_le_add_left (Nat.le_max_left _ _) _) hu))
    (fun j h1 h2 => ih ws r' (Nat.lt_of_le_of_lt (Nat.add_le_add_left (Nat.le_max_right _ _) _) hu) j (Nat.lt_of_succ_lt_succ h1) (Nat.lt_of_succ_lt_succ h2)) h1 h2
/-- == of two tuples that denote the same -/
theorem rcD {ds : List D} {v v' : Value} (h1 : Dv (Hv s.heap) v (.tup ds)) (h2 : Dv (Hv s.heap) v' (.tup ds)) (hu : A.units + hgts ds + 1 < cLine) : RcAt A s v v' true := by
  obtain ⟨a, vs, n, p, r⟩ : DvTup _ ds v := h1.inv
  obtain ⟨b, ws, n', p', r'⟩ : DvTup _ ds v' := h2.inv
  exact rc_tup p p' (by rw [r.length, r'.length]) (by lia) (eqDs ds r r' (by show A.units + 1 + _ < _; lia))
theorem rneD {ds : List D} {v v' : Value} (h1 : Dv (Hv s.heap) v (.tup ds)) (h2 : Dv (Hv s.heap) v' (.tup ds)) (hu : A.units + hgts ds + 1 < cLine) : RcNeAt A s v v' false := by
  obtain ⟨a, vs, n, p, r⟩ : DvTup _ ds v := h1.inv
  obtain ⟨b, ws, n', p', r'⟩ : DvTup _ ds v' := h2.inv
  have hl : vs.length = ws.length := r.length.trans r'.length.symm
  have := RcNeAt.tuples (e := fun _ => true) (A := A) (s := s) (l := a) (b := b) (items := vs.toArray) (items2 := ws.toArray) ⟨_, p, rfl, _, rfl⟩ ⟨_, p', rfl, _, rfl⟩ (Nat.lt_of_le_of_lt (Nat.le_trans (Nat.le_add_right _ _) (Nat.le_add_right _ _)) hu) (fun j j1 j2 => by
    exact eqDs ds r r' (A := A.in1) (by rw [units_in1, Nat.add_right_comm]; exact hu) j j1 j2)
  rw [all_true] at this
  have e : (vs.toArray.size == ws.toArray.size) = true := beq_iff_eq.mpr hl
  rw [e] at this; exact this
theorem rneL {ds : List D} {a b n n' : Nat} {vs ws : List Value} (p : s.heap.get? a = some (listOf vs.toArray n)) (p' : s.heap.get? b = some (listOf ws.toArray n')) (r : Dvs (Hv s.heap) vs ds) (r' : Dvs (Hv s.heap) ws ds) (hu : A.units + hgts ds + 1 < cLine) : RcNeAt A s (.ref a) (.ref b) false := by
  have hl : vs.length = ws.length := by rw [r.length, r'.length]
  have := RcNeAt.lists (e := fun _ => true) (A := A) (s := s) (l := a) (b := b) (items := vs.toArray) (items2 := ws.toArray) ⟨_, p, rfl, _, rfl⟩ ⟨_, p', rfl, _, rfl⟩ hl (Nat.lt_of_le_of_lt (Nat.le_trans (Nat.le_add_right _ _) (Nat.le_add_right _ _)) hu) (fun j j1 j2 => eqDs ds r r' (A := A.in1) (by rw [units_in1, Nat.add_right_comm]; exact hu) j j1 j2)
  rw [all_true] at this
  exact this
variable {prog : Program} {w : World} {E : Value → Shared → Prop} {Q : Value → Shared → Prop}
theorem eq_D {ds : List D} {v v' : Value} (h1 : Dv (Hv s.heap) v (.tup ds)) (h2 : Dv (Hv s.heap) v' (.tup ds)) (hu : A.units + hgts ds + 1 < cLine) (h : Q (.bool true) s) : wpAny (model prog w) A (compareOp .Eq v v') Q E s := rcD h1 h2 hu prog w E Q h
theorem ne_D {ds : List D} {v v' : Value} (h1 : Dv (Hv s.heap) v (.tup ds)) (h2 : Dv (Hv s.heap) v' (.tup ds)) (hu : A.units + hgts ds + 1 < cLine) (h : Q (.bool false) s) : wpAny (model prog w) A (compareOp .NotEq v v') Q E s := rneD h1 h2 hu prog w E Q h
theorem ne_L {ds : List D} {a b n n' : Nat} {vs ws : List Value} (p : s.heap.get? a = some (listOf vs.toArray n)) (p' : s.heap.get? b = some (listOf ws.toArray n')) (r : Dvs (Hv s.heap) vs ds) (r' : Dvs (Hv s.heap) ws ds) (hu : A.units + hgts ds + 1 < cLine) (h : Q (.bool false) s) :
    wpAny (model prog w) A (compareOp .NotEq (.ref a) (.ref b)) Q E s := rneL p p' r r' hu prog w E Q h
end
theorem Dvs.split {P : Addr → Obj → Prop} : ∀ {vs : List Value} {ds es : List D}, Dvs P vs (ds ++ es) → ∃ a b, vs = a ++ b ∧ Dvs P a ds ∧ Dvs P b es
  | vs, [], es, h => ⟨[], vs, rfl, .nil, h⟩
  | _, _ :: ds, es, .cons p r => by
    obtain ⟨a, b, rfl, h1, h2⟩ := Dvs.split (ds := ds) r
    exact ⟨_ :: a, b, rfl, .cons p h1, h2⟩
theorem Dvs.snoc {P : Addr → Obj → Prop} {vs : List Value} {ds : List D} {d : D} (h : Dvs P vs (ds ++ [d])) : ∃ a v, vs = a ++ [v] ∧ Dvs P a ds ∧ Dv P v d := by
  obtain ⟨a, b, rfl, h1, h2⟩ := h.split
  cases h2 with
  | cons p r => cases r with | nil => exact ⟨a, _, rfl, h1, p⟩
section
variable {prog : Program} {w : World} {A : Around} {E : Value → Shared → Prop} {s : Shared} {g h₀ : Heap} {L a b n n' : Nat} {m : Str → Option Value} {led led' : List (Addr × Obj)} {value slice : Expr} {ops : List Value} {Q : Value → Shared → Prop} {vs xs : List Value} {x : Value} {u : Tok}
theorem rev_L (F : Fr g L h₀ m) (N : News g L h₀ led) (hm : (a, listOf vs.toArray n) ∈ led) (hz : vs.length ≤ 10000)
    (h : ∀ D' h', Fr g L h' m → News g L h' ((D', listOf vs.reverse.toArray 0) :: led) → (∀ p ∈ led, p.1 < D') → L < D' → Q (.ref D') { s with heap := h' })
    (hs : subscripted slice false (.ref a) (.ref h₀.objs.size) = operate ops (getItem (.ref a) (.ref h₀.objs.size))) :
    wpAny (model prog w) A (subscriptTail value slice (.ref a) (.ref h₀.objs.size)) Q E { s with heap := h₀.push { cls := .type "slice", data := .fields #[.none, .none, .int (-1) u] } } := by
  have hL : L < h₀.objs.size := F.ns.lt
  have hl : (h₀.push { cls := .type "slice", data := .fields #[.none, .none, .int (-1) u] }).IsList a vs.toArray := ⟨_, Heap.get?_push_of_some _ (N.get hm), rfl, _, rfl⟩
  refine tail_any (s := { s with heap := h₀.push { cls := .type "slice", data := .fields #[.none, .none, .int (-1) u] } }) hl.typeIs slot_list_getitem.lookup
    (wpAny_getItem_list_slice (s := { s with heap := h₀.push { cls := .type "slice", data := .fields #[.none, .none, .int (-1) u] } }) hl (Heap.IsSliceOf.new ..) .none .none (.int (-1) u) (by decide) ?_ (by have : sizeLine = 2 ^ 24 := rfl; rw [List.size_toArray]; lia)) hs
  rw [krv_pick]
  have N1 := News.push (F.push { cls := .type "slice", data := .fields #[.none, .none, .int (-1) u] }) (N.grown fun _ _ e => Heap.get?_push_of_some _ e) (listOf vs.reverse.toArray 0)
  exact h _ _ ((F.push _).push _) N1 (fun p hp => by rw [Heap.size_push]; exact Nat.lt_succ_of_lt (Heap.lt_size (N p hp).1)) (by rw [Heap.size_push]; exact Nat.lt_succ_of_lt hL)
theorem ne_nil1 (N : News g L s.heap led) (ha : (a, listOf (xs ++ [x]).toArray n) ∈ led) (hb : (b, listOf [].toArray n') ∈ led) (hu : A.units < 5000) (h : Q (.bool true) s) : wpAny (model prog w) A (compareOp .NotEq (.ref a) (.ref b)) Q E s :=
  RcNeAt.lists_lengths (isl N ha) (isl N hb) (by simp) (by show _ < 9900; lia) prog w E Q h
theorem ne_nil0 (N : News g L s.heap led) (ha : (a, listOf [].toArray n) ∈ led) (hb : (b, listOf [].toArray n') ∈ led) (hu : A.units < 5000) (h : Q (.bool false) s) : wpAny (model prog w) A (compareOp .NotEq (.ref a) (.ref b)) Q E s :=
  ne_L (ds := []) (N.get ha) (N.get hb) .nil .nil (by show A.units + 0 + 1 < 9900; lia) h
theorem last_snoc : ∀ {xs : List Value} {x : Value}, kl_last (xs ++ [x]) = some (xs, x)
  | [], _ => rfl
  | _ :: r, x => by rw [List.cons_append, kl_last, last_snoc (xs := r)]
theorem pop_l (F : Fr g L s.heap m) (N : News g L s.heap led) (U : Upd a (listOf (xs ++ [x]).toArray n) (listOf xs.toArray (n + 1)) led led') (hz : xs.length ≤ 100000) (h : ∀ h', Fr g L h' m → News g L h' led' → Q x { s with heap := h' }) :
    wpAny (model prog w) A (call (.builtin "list.pop") [.ref a]) Q E s :=
  kl_pop F N last_snoc U (by have : sizeLine = 2 ^ 24 := rfl; rw [List.length_append]; simp only [List.length_singleton]; lia) h
end
section
variable {prog : Program} {w : World} {A : Around} {E : Value → Shared → Prop} {s : Shared} {g : Heap} {L : Nat} {m : Str → Option Value} {led rest nw0 : List (Addr × Obj)} {ps : Array Value} {mk : Str} {v : Value} {st : St}
theorem call_parts {Q : Value → Shared → Prop} (B : Base w g) (F : Fr g L s.heap m) (N : News g L s.heap led) (hP : (27, tabObj ps) ∈ led) (T : TabN g nw0 ps 22 4 qualB) (hn : ∀ p ∈ nw0, p ∈ led) (hv : Dv (Hv s.heap) v (st.toD mk)) (hr : Rest [27] led rest) (hb : st.bodies.flatten.length ≤ 1000)
    (hA : A.handled = none) (hd : A.depth + 30 < 800) (hu : A.units + 60 < 4500)
    (h : ∀ h' tk' a vs nw ps', Fr g L h' m → News g L h' ((27, tabObj ps') :: (a, listOf vs.toArray vs.length) :: (rest ++ nw)) → TabN g nw ps' 22 4 qualB → (∀ p ∈ nw, p.1 ≠ 27) → (∀ p ∈ nw, p.1 ≠ a) → (∀ p ∈ nw, ∀ z ∈ led, (∃ its k, z.2 = listOf its k) → p.1 ≠ z.1) →
      (∀ z ∈ led, z.1 < a) → L < a → Dvs (Lv g nw) vs (st.bodies.flatten.map (St.toD mk)) → vs.length ≤ 1000 → vs.length = st.bodies.flatten.length → Q (.ref a) { s with heap := h', toks := tk' }) :
    wpAny (model prog w) A (call (.ref 37) [v]) Q E s := by
  refine wpAny_call (parts_spec B F.keep (N.fresh hP) (T.tabV F N hP hn) hv hb hA hd hu fun h' tk' a vs k T' ha hl dv => ?_)
  obtain ⟨F', nw, ps', N', Tn, o1, o2, o3, o4, o5, tot⟩ := back5 F N k hP hr T' ha hl
  have e := dv.length
  rw [List.length_map] at e
  exact h h' tk' a vs nw ps' F' N' Tn o1 o2 o3 o4 o5 (dv.mono tot) (by lia) e
end
noncomputable def Hold (p : Prop) : Prop := p
theorem Hold.mk {p : Prop} (h : Hold p) : p := h
theorem preL_app (x y : List St) : preL (x ++ y) = preL x ++ preL y := by
  induction x with
  | nil => rw [preL.eq_1]; rfl
  | cons a r ih => rw [List.cons_append, preL.eq_2, preL.eq_2, ih, List.append_assoc]
theorem preL_nil : preL [] = [] := by rw [preL.eq_1]
theorem pre_bodies (s : St) : s.pre = s :: preL s.bodies.flatten := by
  cases s with
  | mv a b => rw [St.pre.eq_1, show (St.mv a b).bodies = [] from rfl, List.flatten_nil, preL_nil]
  | iff a b x y => rw [St.pre.eq_2, show (St.iff a b x y).bodies = [x, y] from rfl, List.flatten_cons, List.flatten_cons, List.flatten_nil, List.append_nil, preL_app]
  | ev a x y z => rw [St.pre.eq_3, show (St.ev a x y z).bodies = [x, y, z] from rfl, List.flatten_cons, List.flatten_cons, List.flatten_cons, List.flatten_nil, List.append_nil, preL_app, preL_app]
  | pf a b c x => rw [St.pre.eq_4, show (St.pf a b c x).bodies = [x] from rfl, List.flatten_cons, List.flatten_nil, List.append_nil]
  | br k a x y => rw [St.pre.eq_5, show (St.br k a x y).bodies = [x, y] from rfl, List.flatten_cons, List.flatten_cons, List.flatten_nil, List.append_nil, preL_app]
theorem len_preL : ∀ l : List St, l.length ≤ (preL l).length
  | [] => Nat.zero_le _
  | s :: r => by
    have := len_preL r
    rw [preL.eq_2, pre_bodies]; simp only [List.length_cons, List.length_append]; lia
/-- the loop of statements_within -/
noncomputable def WithinJ (g : Heap) (aF aL : Nat) (m0 : Str → Option Value) (mk : Str) (tot : List St) (n : Nat) (m₁ : Str → Option Value) (news₁ : List (Addr × Obj)) : Prop :=
  ∃ (o : Option Value) (ps : Array Value) (nw : List (Addr × Obj)) (fs ls : List Value) (nF nL : Nat) (done todo : List St), m₁ = (fun y => if y = Str.ofString "one" then o else m0 y) ∧
    news₁ = (27, tabObj ps) :: (aF, listOf fs.toArray nF) :: (aL, listOf ls.toArray nL) :: nw ∧ TabN g nw ps 22 4 qualB ∧ Dvs (Lv g nw) fs (toDs mk done) ∧ Dvs (Lv g nw) ls (todo.reverse.map (St.toD mk)) ∧
    ((∀ p ∈ nw, p.1 ≠ 27) ∧ (∀ p ∈ nw, p.1 ≠ aF) ∧ (∀ p ∈ nw, p.1 ≠ aL)) ∧ done ++ preL todo = tot ∧ n = (preL todo).length
theorem LCg_lt {b : Nat} : ∀ {mo : List (Addr × Obj)}, AllLt b mo → ∀ p ∈ mo, p.1 ≠ b
  | [], _, p, hp => absurd hp (List.not_mem_nil)
  | x :: r, h, p, hp => (List.mem_cons.mp hp).elim (fun e => by rw [e]; exact Nat.ne_of_lt h.1) fun q => LCg_lt h.2 p q
/-- what a call of c with ar v does, v a thing of α: the state grows by e, the value is f -/
noncomputable def ChgTo {α : Type} (prog : Program) (w : World) (c : Nat) (ar : Value → List Value) (Ms : List Nat) (S : (Addr → Obj → Prop) → List D → Prop) (ok : α → Prop) (δ f : α → D) (e : α → List D) (K U : Nat) : Prop :=
  ∀ {A : Around} {s : Shared} {G : Heap} {R : Result → Shared → Prop} {v : Value} {x : α} {l : List D} {V : Addr → Obj → Prop}, ok x → Base w G → G.StaysIn s.heap → (∀ a ∈ Ms, G.get? a = none) → Sub V (Hv s.heap) → S V l → Dv V v (δ x) → l.length + (e x).length ≤ 1000 →
    A.handled = none → A.depth + K < 800 → A.units + U < 4500 →
    (∀ h' tk' r, Kp Ms s.heap h' → S (Aft V Ms s.heap h') (l ++ e x) → Dv (Aft V Ms s.heap h') r (f x) → R (.ok (.ret r)) { s with heap := h', toks := tk' }) →
    codeAny (model prog w) A (.call (.ref c) ⟨ar v, []⟩) R s
/-- what stands and is not changed -/
noncomputable abbrev Fz (V : Addr → Obj → Prop) (Ms : List Nat) : Addr → Obj → Prop := fun a o => V a o ∧ a ∉ Ms
theorem fz_sub {V V' : Addr → Obj → Prop} {Ms : List Nat} (h : Sub V V') : Sub (Fz V Ms) (Fz V' Ms) := fun a o x => ⟨h _ _ x.1, x.2⟩
noncomputable abbrev Up (X : (Addr → Obj → Prop) → Prop) : Prop := ∀ {V V' : Addr → Obj → Prop}, Sub V V' → X V → X V'
section
variable {α : Type} {prog : Program} {w : World} {c : Nat} {ar : Value → List Value} {Ms Ms' : List Nat} {S : (Addr → Obj → Prop) → List D → Prop} {ok : α → Prop} {δ f : α → D} {e : α → List D} {K U : Nat}
theorem ChgTo.of (C : ChgSpec prog w c Ms S ok δ f e K U) : ChgTo prog w c (fun v => [v]) Ms S ok δ f e K U := fun {A s G R v x l V} => @C A s G R v x l V
theorem aft_fz {V : Addr → Obj → Prop} {h h' : Heap} (hV : Sub V (Hv h)) (k : Kp Ms h h') : Sub (Fz V Ms) (Fz (Aft V Ms h h') Ms) := fun a o x => ⟨⟨k.keep _ _ (hV _ _ x.1) x.2, .inr (.inl x.1)⟩, x.2⟩
theorem aft_mono {V : Addr → Obj → Prop} {h h' : Heap} (hs : ∀ a ∈ Ms, a ∈ Ms') : Sub (Aft V Ms h h') (Aft V Ms' h h') := fun a o x => ⟨x.1, x.2.imp (hs _) id⟩
/-- a call keeps what it does not change -/
theorem ChgTo.frame {X : (Addr → Obj → Prop) → Prop} (HX : Up X) (HS : ChgS Ms S) (hs : ∀ a ∈ Ms, a ∈ Ms') (C : ChgTo prog w c ar Ms S ok δ f e K U) :
    ChgTo prog w c ar Ms' (fun V l => S V l ∧ X (Fz V Ms)) ok δ f e K U := by
  intro A s G R v x l V hx B kp hM hV hS hv hb hA hd hu h
  refine C hx B kp (fun a ha => hM a (hs a ha)) hV hS.1 hv hb hA hd hu fun h' tk' r k S' d' => h h' tk' r (k.mono hs) ⟨HS.mono (aft_mono hs) S', HX (fun a o x => ?_) hS.2⟩ (d'.sub (aft_mono hs))
  exact ⟨(aft_mono hs) _ _ (aft_fz hV k _ _ x).1, x.2⟩
theorem ChgTo.imp {S' : (Addr → Obj → Prop) → List D → Prop} (h1 : ∀ V l, S' V l → S V l) (h2 : ∀ V l, S V l → S' V l) (C : ChgTo prog w c ar Ms S ok δ f e K U) : ChgTo prog w c ar Ms S' ok δ f e K U := by
  intro A s G R v x l V hx B kp hM hV hS hv hb hA hd hu h
  exact C hx B kp hM hV (h1 _ _ hS) hv hb hA hd hu fun h' tk' r k S' d' => h h' tk' r k (h2 _ _ S') d'
theorem ChgTo.le {K' U' : Nat} (h1 : K ≤ K') (h2 : U ≤ U') (C : ChgTo prog w c ar Ms S ok δ f e K U) : ChgTo prog w c ar Ms S ok δ f e K' U' := by
  intro A s G R v x l V hx B kp hM hV hS hv hb hA hd hu h
  exact C hx B kp hM hV hS hv hb hA (by lia) (by lia) h
theorem ChgS.frame {X : (Addr → Obj → Prop) → Prop} (HX : Up X) (HS : ChgS Ms S) : ChgS Ms (fun V l => S V l ∧ X (Fz V Ms)) :=
  ⟨fun hs x => ⟨HS.mono hs x.1, HX (fz_sub hs) x.2⟩, fun x => HS.has x.1⟩
end
section
variable {prog : Program} {w : World} {A : Around} {E : Value → Shared → Prop} {s : Shared} {g h₀ : Heap} {L : Nat} {m : Str → Option Value} {led led₀ mo im rest : List (Addr × Obj)} {Ms : List Nat} {V : Addr → Obj → Prop} {S : (Addr → Obj → Prop) → List D → Prop}
theorem call_to {α : Type} {c : Nat} {ar : Value → List Value} {ok : α → Prop} {δ f : α → D} {e : α → List D} {K U : Nat} {l : List D} {v : Value} {x : α} {vals : List Value} {Q : Value → Shared → Prop} (C : ChgTo prog w c ar Ms S ok δ f e K U) (HS : ChgS Ms S) (hx : ok x) (hvals : vals = ar v) (B : Base w g) (F : Fr g L s.heap m) (N : News g L s.heap led)
    (hg1 : ∀ b o, h₀.get? b = some o → b ∉ led₀.map (·.1) → g.get? b = some o) (hV : Sub V (Hv h₀)) (hl₀ : ∀ a ∈ led₀.map (·.1), a ∈ Ms) (hS : S (Vv V Ms (mo ++ im)) l) (hd : Dv (Vv V Ms im) v (δ x)) (hbd : l.length + (e x).length ≤ 1000)
    (hc : Cov Ms mo) (hmo : ∀ p ∈ mo, p.1 ∈ Ms) (hml : ∀ p ∈ mo, p ∈ led) (hr : RestV Ms led rest) (him : ∀ p ∈ im, p ∈ rest) (hA : A.handled = none) (hdp : A.depth + K < 800) (hu : A.units + U < 4500)
    (h : ∀ h' tk' r mo' nw, Fr g L h' m → News g L h' (mo' ++ (rest ++ nw)) → Cov Ms mo' → (∀ p ∈ mo', p.1 ∈ Ms) → (∀ p ∈ nw, ∀ q ∈ led, p.1 ≠ q.1) → (∀ p ∈ nw, p.1 ∉ Ms) → S (Vv V Ms (mo' ++ (im ++ nw))) (l ++ e x) → Dv (Vv V Ms (im ++ nw)) r (f x) → Q r { s with heap := h', toks := tk' }) :
    wpAny (model prog w) A (call (.ref c) vals) Q E s := by
  subst hvals
  have hM : ∀ a ∈ Ms, ∃ o, (a, o) ∈ led := fun a ha => let ⟨o, ho⟩ := hc a ha; ⟨o, hml _ ho⟩
  have hil : ∀ p ∈ im, p ∈ led := fun p hp => (hr.mem (fun _ h => h) p (him p hp)).1
  have hall : ∀ p ∈ mo ++ im, p ∈ led := List.forall_mem_append.mpr ⟨hml, hil⟩
  refine wpAny_call (C hx B F.keep (fun a ha => let ⟨o, ho⟩ := hM a ha; (N _ ho).2.2) (vv_hv hg1 F N hV hl₀ hall) hS (hd.sub (vv_sub fun p hp => List.mem_append_right _ hp)) hbd hA hdp hu fun h' tk' r k S' d' => ?_)
  obtain ⟨mo', nw, F', N', hmo', lo, off, _, sub⟩ := back3 (V := V) F N k hM hr hmo him
  have S2 := HS.mono sub S'
  have hin : ∀ p ∈ mo' ++ (im ++ nw), p ∈ mo' ++ (rest ++ nw) := fun p hp => by
    simp only [List.mem_append] at hp ⊢
    rcases hp with hp | hp | hp
    · exact .inl hp
    · exact .inr (.inl (him p hp))
    · exact .inr (.inr hp)
  refine h h' tk' r mo' nw F' N' (fun a ha => ?_) hmo' lo off S2 ?_
  · obtain ⟨o, y, _⟩ := HS.has S2 a ha
    rcases y with y | y
    · exact absurd ha y.2
    · refine ⟨o, (List.mem_append.mp y).resolve_right fun y => ?_⟩
      rcases List.mem_append.mp y with y | y
      · exact (hr.mem (fun _ h => h) _ (him _ y)).2 ha
      · exact off _ y ha
  · exact dv_im N' (fun p hp => List.mem_append_left _ hp) (mo_cls HS N' hmo' hin S2) (d'.sub sub)
/-- the end of one turn of a comprehension whose element is such a call -/
noncomputable def TTurn (g : Heap) (L : Nat) (m : Str → Option Value) (s : Shared) (I : Addr) (oI : Obj) (C : Addr) (oC : Obj) (D' : Addr) (oD : Obj) (Ms : List Nat) (S : (Addr → Obj → Prop) → List D → Prop) (V : Addr → Obj → Prop) (l' : List D) (ex : List D) (d : D) (x0 nw : List (Addr × Obj)) (y : Value) (s' : Shared) : Prop :=
  ∃ h' tk' mo' nw', s' = { s with heap := h', toks := tk' } ∧ Fr g L h' m ∧ News g L h' ((I, oI) :: (C, oC) :: (D', oD) :: (mo' ++ (x0 ++ (nw ++ nw')))) ∧ (∀ p ∈ nw', p.1 ≠ I ∧ p.1 ≠ C ∧ p.1 ≠ D') ∧ Cov Ms mo' ∧ (∀ p ∈ mo', p.1 ∈ Ms) ∧ (∀ p ∈ nw', p.1 ∉ Ms) ∧
    S (Vv V Ms (mo' ++ (nw ++ nw'))) (l' ++ ex) ∧ Dv (Vv V Ms (nw ++ nw')) y d
noncomputable def TInv {α : Type} (Ms : List Nat) (S : (Addr → Obj → Prop) → List D → Prop) (V : Addr → Obj → Prop) (l : List D) (f : α → D) (e : α → List D) (src : List α) (x0 : List (Addr × Obj)) (k i : Nat) (ys : List Value) (news : List (Addr × Obj)) : Prop :=
  k + i = src.length ∧ ∃ mo nw, news = mo ++ (x0 ++ nw) ∧ Cov Ms mo ∧ (∀ p ∈ mo, p.1 ∈ Ms) ∧ (∀ p ∈ nw, p.1 ∉ Ms) ∧ S (Vv V Ms (mo ++ nw)) (l ++ (src.take i).flatMap e) ∧ Dvs (Vv V Ms nw) ys ((src.take i).map f)
theorem t_turn_end {h' : Heap} {I C D' tk' : Nat} {oI oC oD : Obj} {mo mo' x0 nw nwc : List (Addr × Obj)} {l' ex : List D} {r : Value} {b : D} (F : Fr g L h' m)
    (N : News g L h' (mo' ++ ((I, oI) :: (C, oC) :: (D', oD) :: (x0 ++ (nw ++ nwc))))) 
    (lo : ∀ p ∈ nwc, ∀ q ∈ (I, oI) :: (C, oC) :: (D', oD) :: (mo ++ (x0 ++ nw)), p.1 ≠ q.1) (hc : Cov Ms mo') (hm : ∀ p ∈ mo', p.1 ∈ Ms) (ho : ∀ p ∈ nwc, p.1 ∉ Ms) (hS : S (Vv V Ms (mo' ++ (nw ++ nwc))) (l' ++ ex)) (d2 : Dv (Vv V Ms (nw ++ nwc)) r b) :
    TTurn g L m s I oI C oC D' oD Ms S V l' ex b x0 nw r { s with heap := h', toks := tk' } := by
  refine ⟨h', tk', mo', nwc, rfl, F, fun p hp => N p ?_, fun p hp => ⟨lo p hp (I, oI) (by simp), lo p hp (C, oC) (by simp), lo p hp (D', oD) (by simp)⟩, hc, hm, ho, hS, d2⟩
  simp only [List.mem_cons, List.mem_append] at hp ⊢
  rcases hp with hp | hp | hp | hp | hp | hp | hp <;> simp only [hp, true_or, or_true]
theorem comp_tups {α : Type} {env : Env} {elt : Expr} {xn : Str} {scope : Scope} {cl : List (Str × Addr)} {ws : List Value} {wv nn : Nat} {x0 : List (Addr × Obj)} {Q : Value → Shared → Prop} {l : List D} {ok : α → Prop} {δ f : α → D} {e : α → List D} {src : List α}
    (hbd : l.length + (src.flatMap e).length ≤ 1000) (HS : ChgS Ms S) (F : Fr g L s.heap m) (N : News g L s.heap led) (hsub : ∀ p ∈ mo ++ x0, p ∈ led) (ht : g.get? wv = some (tupOf ws nn)) (hcov : Cov Ms mo) (hmM : ∀ p ∈ mo, p.1 ∈ Ms) (hS : S (Vv V Ms mo) l) (hsz : ws.length ≤ 1000)
    (hws : Dvs (Vv V Ms []) ws (src.map δ)) (hok : ∀ x ∈ src, ok x)
    (fin : ∀ s₂ : Shared, (∃ h, s₂ = { s with heap := h }) → ∀ ys mo nw D' h tk, Fr g L h m → News g L h ((D', LCg.lst ys) :: (mo ++ (x0 ++ nw))) → D' ∉ Ms → Cov Ms mo → (∀ p ∈ mo, p.1 ∈ Ms) → (∀ p ∈ nw, p.1 ∉ Ms) → (∀ p ∈ x0 ++ nw, p.1 ≠ D') → S (Vv V Ms (mo ++ nw)) (l ++ src.flatMap e) →
      Dvs (Vv V Ms nw) ys (src.map f) → Q (.ref D') { s₂ with heap := h, toks := tk })
    (turn : ∀ s₂ : Shared, (∃ h, s₂ = { s with heap := h }) → ∀ v x ys l' mo nw I oI C oC D' m₂ h tk (E' : Value → Shared → Prop), Dv (Vv V Ms []) v (δ x) → ok x → LCg.NsObj oC m₂ → m₂ xn = some v → Fr g L h m →
      News g L h ((I, oI) :: (C, oC) :: (D', LCg.lst ys) :: (mo ++ (x0 ++ nw))) → I ∉ Ms → C ∉ Ms → D' ∉ Ms → ((@Ne Nat I C) ∧ (@Ne Nat I D') ∧ (@Ne Nat C D')) → Cov Ms mo → (∀ p ∈ mo, p.1 ∈ Ms) → (∀ p ∈ nw, p.1 ∉ Ms) → S (Vv V Ms (mo ++ nw)) l' → l'.length + (e x).length ≤ 1000 →
      wpAny (model prog w) A (eval elt (compEnvC scope cl C env)) (TTurn g L m { s₂ with heap := h, toks := tk } I oI C oC D' (LCg.lst ys) Ms S V l' (e x) (f x) x0 nw) E' { s₂ with heap := h, toks := tk })
    (h0 : ∀ p ∈ x0, p.1 ∉ Ms) :
    TupSrc prog w A g L m env elt xn scope cl Q (.ref wv) s := by
  have hl := hws.length
  rw [List.length_map] at hl
  refine ⟨ws.toArray, TInv Ms S V l f e src x0, wv, mo ++ x0, rfl, F, fun p hp => N p (hsub p hp), ⟨_, ht, rfl, _, rfl⟩, ?_, ⟨by rw [List.size_toArray, hl]; rfl, mo, [], by rw [List.append_nil], hcov, hmM, List.forall_mem_nil _, by simpa using hS, by simpa using .nil⟩, fun s₂ hs₂ => ⟨fun i ys news hI => ?_, ?_⟩⟩
  · have : sizeLine = 2 ^ 24 := rfl
    rw [List.size_toArray]; lia
  · obtain ⟨hki, mo', nw, rfl, c1, c2, c3, hS', dy⟩ := hI
    rw [Nat.zero_add] at hki
    rw [hki, List.take_length] at hS' dy
    intro D' h tk F' N' o1'
    have key : ∀ {l : List (Addr × Obj)}, LCg.Off1 D' l → ∀ p ∈ l, p.1 ≠ D' := fun {l} => by
      induction l with
      | nil => exact fun _ _ h => nomatch h
      | cons x r ih =>
        intro z p hp
        rcases List.mem_cons.mp hp with rfl | hp
        · exact z.1
        · exact ih z.2 p hp
    refine fin s₂ hs₂ ys mo' nw D' h tk F' N' (fun q => ?_) c1 c2 c3 (fun p hp => key o1' p (List.mem_append_right _ hp)) hS' dy
    obtain ⟨o, ho⟩ := c1 _ q
    exact key o1' _ (List.mem_append_left _ ho) rfl
  · intro k i ys news hI v I oI C oC D' m₂ h tk E' hv hC hx F' N' off ne
    obtain ⟨hki, mo', nw, rfl, c1, c2, c3, hS', dy⟩ := hI
    have hi : i < src.length := by lia
    obtain ⟨v', e1, d1⟩ := hws.get (i := i) (d := δ src[i]) (by rw [List.getElem?_map, List.getElem?_eq_getElem hi]; rfl)
    rw [List.getElem?_toArray, e1] at hv
    cases hv
    have tk9 : src.take (i + 1) = src.take i ++ [src[i]] := by
      rw [List.take_add_one, List.getElem?_eq_getElem hi]; rfl
    have hb9 : (l ++ (src.take i).flatMap e).length + (e src[i]).length ≤ 1000 := by
      have h1 : ((src.take (i + 1)).flatMap e).length ≤ (src.flatMap e).length := by
        conv => rhs; rw [← List.take_append_drop (i + 1) src, List.flatMap_append, List.length_append]
        lia
      rw [tk9, List.flatMap_append, List.length_append] at h1
      simp only [List.flatMap_cons, List.flatMap_nil, List.append_nil] at h1
      rw [List.length_append]; lia
    obtain ⟨i1, i2, i3⟩ := off_ms off (mo := mo') (fun p hp => List.mem_append_left _ hp) c1
    refine wpAny_mono (turn s₂ hs₂ v src[i] ys _ mo' nw I oI C oC D' m₂ h tk E' d1 (hok _ (List.getElem_mem hi)) hC hx F' N' i1 i2 i3 ne c1 c2 c3 hS' hb9) (fun y s' q => ?_) fun _ _ e => e
    obtain ⟨h', tk', mo2, nw2, rfl, F2, N2, of2, k1, k2, k3, S2, dy2⟩ := q
    refine ⟨h', tk', mo2 ++ (x0 ++ (nw ++ nw2)), rfl, F2, N2, LCg.Off3.of fun p hp => ?_, trivial, by lia, mo2, nw ++ nw2, rfl, k1, k2, List.forall_mem_append.mpr ⟨c3, k3⟩, ?_, ?_⟩
    · rcases List.mem_append.mp hp with hp | hp
      · exact ⟨fun q => i1 (q ▸ k2 p hp), fun q => i2 (q ▸ k2 p hp), fun q => i3 (q ▸ k2 p hp)⟩
      · rcases List.mem_append.mp hp with hp | hp
        · exact off.mem _ (List.mem_append_right _ (List.mem_append_left _ hp))
        · rcases List.mem_append.mp hp with hp | hp
          · exact off.mem _ (List.mem_append_right _ (List.mem_append_right _ hp))
          · exact of2 p hp
    · rw [tk9, List.flatMap_append]
      simpa [List.append_assoc] using S2
    · rw [tk9, List.map_append]
      exact (dy.sub (vv_sub fun p hp => List.mem_append_left _ hp)).append (.one dy2)
end
/-- a lambda as a change -/
theorem chg_lam {α : Type} {prog : Program} {w : World} {f' c' : Nat} {oc : Obj} {name qual an : Str} {params : Arguments} {body : Expr} {scope : Scope} {cl : List (Str × Addr)} {pm ctv : Value} {vs' : Array Value} {t' : Tok} {keep : List (Addr × Obj)} {Ms : List Nat} {S : (Addr → Obj → Prop) → List D → Prop} {ok : α → Prop} {δ f : α → D} {e : α → List D} {K U : Nat}
    (HS : ChgS Ms S) (hkeep : ∀ V l, S V l → ∀ p ∈ keep, Fz V Ms p.1 p.2) (mf : (f', kla_obj name qual params body scope cl pm c' ctv) ∈ keep) (mc : (c', oc) ∈ keep) (hocd : oc.data = .fields vs') (hq : vs'[1]? = some (.str qual t'))
    (hbind : ∀ v, bindArgs (kla_fn name qual params body scope cl pm (.ref c') ctv) ⟨[v], []⟩ = pure [(an, v)]) (hloc : scope.names.lookup an = some .local) (hcell : ∀ x ∈ scope.names, x.2 ≠ .cell)
    (hco : scope.isCoroutine = false) (hgen : scope.isGenerator = false) (hk : scope.kind = .function)
    (turn : ∀ {A : Around} {s : Shared} {g h₁ h₀ : Heap} {L tk : Nat} {v : Value} {x : α} {l : List D} {V : Addr → Obj → Prop} {mo : List (Addr × Obj)} {Q : Value → Shared → Prop}, ok x → A.handled = none → A.depth + K < 800 → A.units + U < 4500 → (∀ b o, h₀.get? b = some o → b ∉ mo.map (·.1) → g.get? b = some o) →
      Fr g L h₁ (fun y => [(an, v)].reverse.lookup y) → News g L h₁ mo → Base w g → Sub V (Hv h₀) → (∀ a ∈ mo.map (·.1), a ∈ Ms) → Cov Ms mo → (∀ p ∈ mo, p.1 ∈ Ms) → S (Vv V Ms mo) l → (∀ p ∈ keep, g.get? p.1 = some p.2 ∧ p.1 ∉ Ms) → (∀ a vs n, V a (tupOf vs n) → g.get? a = some (tupOf vs n)) →
      Dv (Vv V Ms []) v (δ x) → l.length + (e x).length ≤ 1000 →
      (∀ h' tk' r mo' nw led' m', Fr g L h' m' → News g L h' led' → (∀ p ∈ mo' ++ nw, p ∈ led') → S (Vv V Ms (mo' ++ nw)) (l ++ e x) → Dv (Vv V Ms nw) r (f x) → Q r { s with heap := h', toks := tk' }) →
      wpAny (model prog w) (A.deeper (envX qual scope L f' (.ref c') cl)) (eval body (envX qual scope L f' (.ref c') cl)) Q (fun _ _ => False) { s with heap := h₁, toks := tk }) :
    ChgTo prog w f' (fun v => [v]) Ms S ok δ f e K U := by
  intro A s G R v x l V hx B kp hMs hV hS hv hbd hA hd hu h
  have hnow := now_led (Ms := Ms) (G := G) (h₀ := s.heap) fun q hq => ⟨hMs q hq, let ⟨o, y, _⟩ := HS.has hS q hq; ⟨o, hV _ _ y⟩⟩
  obtain ⟨hled, hcov, hmM, hl₀⟩ := hnow
  have hS0 := HS.mono (vv_start hV hcov fun p hp => (hled p hp).1) hS
  have ntup : ∀ q ws n, V q (tupOf ws n) → q ∉ Ms := fun q ws n hq hm => by
    obtain ⟨o, y, n⟩ := HS.has hS q hm
    have e1 : s.heap.get? q = some o := hV _ _ y
    have e2 : s.heap.get? q = some (tupOf ws _) := hV _ _ hq
    rw [e2] at e1
    cases e1; exact n rfl
  generalize nowOf Ms s.heap = mo at hled hcov hmM hl₀ hS0
  have hrm : A.depth < recursionLimit := Nat.lt_trans (by first | exact Nat.lt_of_le_of_lt (Nat.le_add_right _ _) (Nat.lt_trans hd (by decide)) | exact Nat.lt_of_le_of_lt hd (by decide) | lia) (show 800 < recursionLimit by decide)
  have hk9 := hkeep _ _ hS
  have hc9 := hk9 _ mc
  have hf9 := hk9 _ mf
  refine enterE (binds := [(an, v)]) B kp mo hled (hV _ _ hf9.1) ⟨c', oc, vs', t', rfl, hV _ _ hc9.1, hocd, hq⟩ hrm (hbind _) (List.forall_mem_cons.mpr ⟨hloc, List.forall_mem_nil _⟩) hcell ?_ hco hgen hk
  intro g h₁ hg1 hg2 F N B'
  refine turn hx hA hd hu hg1 F N B' hV hl₀ hcov hmM hS0 (fun p hp => ⟨vv_g hg1 hV hl₀ (hk9 p hp).1 (hk9 p hp).2, (hk9 p hp).2⟩) (fun a vs n y => vv_g hg1 hV hl₀ y (ntup _ _ _ y)) (hv.mono fun q ws n y => .inl ⟨y, ntup _ _ _ y⟩) hbd ?_
  intro h' tk' r mo' nw led' m' F' N' hi S' d'
  refine h h' tk' r (kp_fin hg1 F' hl₀ (Nat.le_refl _)) (HS.mono (aft_end hg1 F' N' hV hl₀ hi) S') (d'.sub (aft_end hg1 F' N' hV hl₀ fun p hp => hi p (List.mem_append_right _ hp)))
theorem exch_to {prog : Program} {w : World} {c : Nat} {mk : Str} {Ms : List Nat} {S : (Addr → Obj → Prop) → List D → Prop} {ok : List St → Prop} {f : List St → D} {e : List St → List D} {K U : Nat} (C : ChgTo prog w c (fun v => [v]) Ms S ok (fun x => .tup (toDs mk x)) f e K U) (HS : ChgS Ms S) (hc : ∀ V l, S V l → c ∉ Ms ∧ ∃ oc od fd sl, V c ⟨oc, od, .func fd, sl⟩) :
    ChgTo prog w 25 (fun v => [v, .ref c]) Ms S (fun st => ∀ z ∈ st.bodies, ok z) (St.toD mk) (St.exch mk f) (fun st => st.bodies.flatMap e) (K + 3) (U + 9) := by
  intro A s G R v x l V hx B kp hMs hV hS hv hbd hA hd hu h
  exact exch_all (ok := ok) (fun {A s G R v x l V} => @C A s G R v x l V) HS x hx B kp hMs hV hS hv hbd (hc _ _ hS).1 (hc _ _ hS).2 hA hd hu h
noncomputable abbrev qualR : Str := Str.ofString "rebuilt.<locals>.<lambda>"
/-- beside the change's own state: the table of rebuilt, the function -/
noncomputable abbrev RX (c : Nat) (V : Addr → Obj → Prop) : Prop := TabV V 46 38 46 qualR ∧ ∃ oc od fd sl, V c ⟨oc, od, .func fd, sl⟩
theorem rx_up {c : Nat} : Up (RX c) := fun hs ⟨a, oc, od, fd, sl, b⟩ => ⟨a.mono hs, oc, od, fd, sl, hs _ _ b⟩
noncomputable abbrev RebS (Ms : List Nat) (S : (Addr → Obj → Prop) → List D → Prop) (c : Nat) : (Addr → Obj → Prop) → List D → Prop := fun V l => S V l ∧ RX c (Fz V Ms)
noncomputable abbrev KeepX (keep : List (Addr × Obj)) (V : Addr → Obj → Prop) : Prop := ∀ p ∈ keep, V p.1 p.2
theorem keep_up {keep : List (Addr × Obj)} : Up (KeepX keep) := fun hs x p hp => hs _ _ (x p hp)
noncomputable abbrev LamS (Ms : List Nat) (S : (Addr → Obj → Prop) → List D → Prop) (c : Nat) (keep : List (Addr × Obj)) : (Addr → Obj → Prop) → List D → Prop := fun V l => RebS Ms S c V l ∧ KeepX keep (Fz V (46 :: Ms))
theorem rebS {Ms : List Nat} {S : (Addr → Obj → Prop) → List D → Prop} {c : Nat} (HS : ChgS Ms S) : ChgS (46 :: Ms) (RebS Ms S c) where
  mono := fun hs x => ⟨HS.mono hs x.1, rx_up (fz_sub hs) x.2⟩
  has := fun x => List.forall_mem_cons.mpr ⟨let ⟨ps, h⟩ := x.2.1.has; ⟨_, h.1, tab_ne⟩, HS.has x.1⟩
theorem lamS {Ms : List Nat} {S : (Addr → Obj → Prop) → List D → Prop} {c : Nat} {keep : List (Addr × Obj)} (HS : ChgS Ms S) : ChgS (46 :: Ms) (LamS Ms S c keep) := (rebS HS).frame keep_up
noncomputable def St.lev : St → Nat
  | .mv _ _ => 0
  | .iff _ _ x y => max (lev x) (lev y) + 1
  | .ev _ x y z => max (lev x) (max (lev y) (lev z)) + 1
  | .pf _ _ _ x => lev x + 1
  | .br _ _ x y => max (lev x) (lev y) + 1
where lev : List St → Nat
  | [] => 0
  | s :: r => max s.lev (lev r)
theorem postL_nil : postL [] = [] := by rw [postL.eq_1]
theorem postL_app (x y : List St) : postL (x ++ y) = postL x ++ postL y := by
  induction x with
  | nil => rw [postL.eq_1]; rfl
  | cons a r ih => rw [List.cons_append, postL.eq_2, postL.eq_2, ih, List.append_assoc]
theorem post_bodies (s : St) : s.post = s.bodies.flatMap postL ++ [s] := by
  cases s with
  | mv a b => rw [St.post.eq_1]; rfl
  | iff a b x y => rw [St.post.eq_2, show (St.iff a b x y).bodies = [x, y] from rfl, List.flatMap_cons, List.flatMap_cons, List.flatMap_nil, List.append_nil]
  | ev a x y z => rw [St.post.eq_3, show (St.ev a x y z).bodies = [x, y, z] from rfl, List.flatMap_cons, List.flatMap_cons, List.flatMap_cons, List.flatMap_nil, List.append_nil]
  | pf a b c x => rw [St.post.eq_4, show (St.pf a b c x).bodies = [x] from rfl, List.flatMap_cons, List.flatMap_nil, List.append_nil]
  | br k a x y => rw [St.post.eq_5, show (St.br k a x y).bodies = [x, y] from rfl, List.flatMap_cons, List.flatMap_cons, List.flatMap_nil, List.append_nil]
theorem post_flat {β : Type} (e : St → List β) : ∀ x : List St, (postL x).flatMap e = x.flatMap fun st => st.post.flatMap e
  | [] => by rw [postL_nil]; rfl
  | a :: r => by rw [postL.eq_2, List.flatMap_append, List.flatMap_cons, post_flat e r]
theorem lev_mem {x : St} : ∀ {l : List St}, x ∈ l → x.lev ≤ St.lev.lev l
  | y :: r, h => by
    rw [St.lev.lev.eq_2]
    rcases List.mem_cons.mp h with rfl | h
    · lia
    · have := lev_mem h; lia
theorem lev_bodies {st : St} {n : Nat} (h : st.lev < n + 1) : ∀ z ∈ st.bodies, ∀ x ∈ z, x.lev < n := by
  have m : ∀ {l : List St}, St.lev.lev l < n → ∀ x ∈ l, x.lev < n := fun h x hx => Nat.lt_of_le_of_lt (lev_mem hx) h
  cases st with
  | mv a b => exact fun z hz => nomatch hz
  | iff a b x y =>
    rw [St.lev.eq_2] at h
    exact List.forall_mem_cons.mpr ⟨m (by lia), List.forall_mem_cons.mpr ⟨m (by lia), List.forall_mem_nil _⟩⟩
  | ev a x y z =>
    rw [St.lev.eq_3] at h
    exact List.forall_mem_cons.mpr ⟨m (by lia), List.forall_mem_cons.mpr ⟨m (by lia), List.forall_mem_cons.mpr ⟨m (by lia), List.forall_mem_nil _⟩⟩⟩
  | pf a b c x =>
    rw [St.lev.eq_4] at h
    exact List.forall_mem_cons.mpr ⟨m (by lia), List.forall_mem_nil _⟩
  | br k a x y =>
    rw [St.lev.eq_5] at h
    exact List.forall_mem_cons.mpr ⟨m (by lia), List.forall_mem_cons.mpr ⟨m (by lia), List.forall_mem_nil _⟩⟩
theorem preN : preL [] = [] := by rw [preL.eq_1]
theorem preA (x y : List St) : preL (x ++ y) = preL x ++ preL y := by
  induction x with
  | nil => rw [preL.eq_1]; rfl
  | cons a r ih => rw [List.cons_append, preL.eq_2, preL.eq_2, ih, List.append_assoc]
theorem pre_pos (s : St) : 1 ≤ s.pre.length := by
  cases s with
  | mv a b => rw [St.pre.eq_1]; exact Nat.le_refl _
  | iff a b x y => rw [St.pre.eq_2]; simp
  | ev a x y z => rw [St.pre.eq_3]; simp
  | pf a b c x => rw [St.pre.eq_4]; simp
  | br k a x y => rw [St.pre.eq_5]; simp
theorem len_pre : ∀ l : List St, l.length ≤ (preL l).length
  | [] => Nat.zero_le _
  | s :: r => by
    have := len_pre r
    have := pre_pos s
    rw [preL.eq_2]; simp only [List.length_cons, List.length_append]; lia
theorem pre_mem {x : St} : ∀ {l : List St}, x ∈ l → x.pre.length ≤ (preL l).length
  | y :: r, h => by
    rw [preL.eq_2, List.length_append]
    rcases List.mem_cons.mp h with rfl | h
    · lia
    · have := pre_mem h; lia
theorem pre_body {st : St} : ∀ z ∈ st.bodies, (preL z).length ≤ st.pre.length := by
  cases st with
  | mv a b => exact fun z hz => nomatch hz
  | iff a b x y =>
    rw [St.pre.eq_2, List.length_cons, List.length_append]
    exact List.forall_mem_cons.mpr ⟨by lia, List.forall_mem_cons.mpr ⟨by lia, List.forall_mem_nil _⟩⟩
  | ev a x y z =>
    rw [St.pre.eq_3, List.length_cons, List.length_append, List.length_append]
    exact List.forall_mem_cons.mpr ⟨by lia, List.forall_mem_cons.mpr ⟨by lia, List.forall_mem_cons.mpr ⟨by lia, List.forall_mem_nil _⟩⟩⟩
  | pf a b c x =>
    rw [St.pre.eq_4, List.length_cons]
    exact List.forall_mem_cons.mpr ⟨by lia, List.forall_mem_nil _⟩
  | br k a x y =>
    rw [St.pre.eq_5, List.length_cons, List.length_append]
    exact List.forall_mem_cons.mpr ⟨by lia, List.forall_mem_cons.mpr ⟨by lia, List.forall_mem_nil _⟩⟩
theorem ok_bodies {st : St} {n : Nat} (h : st.lev < n + 1 ∧ st.pre.length ≤ 1000) : ∀ z ∈ st.bodies, z.length ≤ 1000 ∧ ∀ x ∈ z, x.lev < n ∧ x.pre.length ≤ 1000 := fun z hz => by
  have h1 := pre_body z hz
  have h2 := len_pre z
  exact ⟨by lia, fun x hx => ⟨lev_bodies h.1 z hz x hx, by have := pre_mem hx; lia⟩⟩
section
variable {M : Model} {A : Around} {E : Value → Shared → Prop} {s : Shared} {h₀ : Heap} {L C c : Addr} {m : Str → Option Value} {scope : Scope} {cl : List (Str × Addr)} {env : Env} {x : Str} {pos : Pos} {v : Value} {o : Obj} {Q : Value → Shared → Prop}
/-- in a comprehension: a name of an outer def, whose cell stands in the base -/
theorem compFree_g (F : Fr h₀ L s.heap m) (hc : cl.lookup x = some c) (hm : h₀.get? c = some o) (hd : o.data = .cell (some v)) (h : Q v s)
    (hk : (compEnvC scope cl C env).scope.kind = .function) (hx : (compEnvC scope cl C env).kindOf x = some .free) (hb : (x == ("__debug__" : Str)) = false := by decide) (hn : (x == ("__classdict__" : Str)) = false := by decide) :
    wpAny M A (eval (.Name x pos) (compEnvC scope cl C env)) Q E s := wpAny_Name (wpAny_loadName_free hk hx hc ⟨o, F.keep _ _ hm, hd⟩ h hn) hb
end
section
variable {prog : Program} {w : World} {A : Around} {E : Value → Shared → Prop} {s : Shared} {g h₀ : Heap} {L : Nat} {m : Str → Option Value} {led led₀ mo im rest : List (Addr × Obj)} {Ms : List Nat} {V : Addr → Obj → Prop} {S : (Addr → Obj → Prop) → List D → Prop}
/-- exchanged_bodies with the lambda of rebuilt -/
theorem call_lam_exch {c f' c' cell : Nat} {oc ocell : Obj} {name qual an mk : Str} {params : Arguments} {body : Expr} {scope : Scope} {cl : List (Str × Addr)} {pm ctv : Value} {vs' : Array Value} {t' : Tok} {rebD : St → D} {e : St → List D} {ok : List St → Prop} {st : St} {v : Value} {l : List D} {K U : Nat} {Q : Value → Shared → Prop}
    (HS : ChgS Ms S) (hx : ∀ z ∈ st.bodies, ok z) (B : Base w g) (F : Fr g L s.heap m) (N : News g L s.heap led) (mfl : (f', kla_obj name qual params body scope cl pm c' ctv) ∈ led)
    (hg1 : ∀ b o, h₀.get? b = some o → b ∉ led₀.map (·.1) → g.get? b = some o) (hV : Sub V (Hv h₀)) (hl₀ : ∀ a ∈ led₀.map (·.1), a ∈ 46 :: Ms)
    (hS : S (Vv V (46 :: Ms) (mo ++ im)) l) (hX : RX c (Fz (Vv V (46 :: Ms) (mo ++ im)) Ms)) (kf : (f', kla_obj name qual params body scope cl pm c' ctv) ∈ im ∧ f' ∉ 46 :: Ms) (kc : Vv V (46 :: Ms) im c' oc ∧ c' ∉ 46 :: Ms) (kl : (cell, ocell) ∈ im ∧ cell ∉ 46 :: Ms)
    (hv : Dv (Vv V (46 :: Ms) im) v (st.toD mk)) (hbd : l.length + (st.bodies.flatMap fun b => (postL b).flatMap e).length ≤ 1000)
    (hcv : Cov (46 :: Ms) mo) (hmo : ∀ p ∈ mo, p.1 ∈ 46 :: Ms) (hml : ∀ p ∈ mo, p ∈ led) (hr : RestV (46 :: Ms) led rest) (him : ∀ p ∈ im, p ∈ rest) (hA : A.handled = none) (hdp : A.depth + (K + 3) < 800) (hu : A.units + (U + 9) < 4500)
    (hocd : oc.data = .fields vs') (hq : vs'[1]? = some (.str qual t'))
    (hbind : ∀ v, bindArgs (kla_fn name qual params body scope cl pm (.ref c') ctv) ⟨[v], []⟩ = pure [(an, v)]) (hloc : scope.names.lookup an = some .local) (hcell : ∀ x ∈ scope.names, x.2 ≠ .cell)
    (hco : scope.isCoroutine = false) (hgen : scope.isGenerator = false) (hk : scope.kind = .function)
    (turn : ∀ {A : Around} {s : Shared} {g h₁ h₀ : Heap} {L tk : Nat} {v : Value} {x : List St} {l : List D} {V : Addr → Obj → Prop} {mo : List (Addr × Obj)} {Q : Value → Shared → Prop} {S' : (Addr → Obj → Prop) → List D → Prop}, (S' = LamS Ms S c [(f', kla_obj name qual params body scope cl pm c' ctv), (c', oc), (cell, ocell)]) → ok x → A.handled = none → A.depth + K < 800 → A.units + U < 4500 → (∀ b o, h₀.get? b = some o → b ∉ mo.map (·.1) → g.get? b = some o) →
      Fr g L h₁ (fun y => [(an, v)].reverse.lookup y) → News g L h₁ mo → Base w g → Sub V (Hv h₀) → (∀ a ∈ mo.map (·.1), a ∈ 46 :: Ms) → Cov (46 :: Ms) mo → (∀ p ∈ mo, p.1 ∈ 46 :: Ms) → S' (Vv V (46 :: Ms) mo) l → (g.get? cell = some ocell) → (∀ a vs n, V a (tupOf vs n) → g.get? a = some (tupOf vs n)) →
      Dv (Vv V (46 :: Ms) []) v (.tup (toDs mk x)) → l.length + ((postL x).flatMap e).length ≤ 1000 →
      (∀ h' tk' r mo' nw led' m', Fr g L h' m' → News g L h' led' → (∀ p ∈ mo' ++ nw, p ∈ led') → S' (Vv V (46 :: Ms) (mo' ++ nw)) (l ++ (postL x).flatMap e) → Dv (Vv V (46 :: Ms) nw) r (.tup (x.map rebD)) → Q r { s with heap := h', toks := tk' }) →
      wpAny (model prog w) (A.deeper (envX qual scope L f' (.ref c') cl)) (eval body (envX qual scope L f' (.ref c') cl)) Q (fun _ _ => False) { s with heap := h₁, toks := tk })
    (h : ∀ h' tk' r mo' nw, Fr g L h' m → News g L h' (mo' ++ (rest ++ nw)) → Cov (46 :: Ms) mo' → (∀ p ∈ mo', p.1 ∈ 46 :: Ms) → (∀ p ∈ nw, ∀ q ∈ led, p.1 ≠ q.1) → (∀ p ∈ nw, p.1 ∉ 46 :: Ms) → RebS Ms S c (Vv V (46 :: Ms) (mo' ++ (im ++ nw))) (l ++ st.bodies.flatMap fun b => (postL b).flatMap e) → Dv (Vv V (46 :: Ms) (im ++ nw)) r (st.exch mk fun b => .tup (b.map rebD)) → Q r { s with heap := h', toks := tk' }) :
    wpAny (model prog w) A (call (.ref 25) [v, .ref f']) Q E s := by
  have L1 : ChgTo prog w f' (fun v => [v]) (46 :: Ms) (LamS Ms S c [(f', kla_obj name qual params body scope cl pm c' ctv), (c', oc), (cell, ocell)]) ok (fun b => .tup (toDs mk b)) (fun b => .tup (b.map rebD)) (fun b => (postL b).flatMap e) K U := chg_lam (prog := prog) (w := w) (keep := [(f', kla_obj name qual params body scope cl pm c' ctv), (c', oc), (cell, ocell)]) (Ms := 46 :: Ms) (S := LamS Ms S c [(f', kla_obj name qual params body scope cl pm c' ctv), (c', oc), (cell, ocell)]) (ok := ok) (δ := fun b => .tup (toDs mk b)) (f := fun b => .tup (b.map rebD)) (e := fun b => (postL b).flatMap e) (K := K) (U := U)
    (lamS HS) (fun V l x => x.2) (.head _) (.tail _ (.head _)) hocd hq hbind hloc hcell hco hgen hk
    (fun a1 a2 a3 a4 a5 a6 a7 a8 a9 b1 b2 b3 b4 b5 b6 b7 b8 b9 => turn rfl a1 a2 a3 a4 a5 a6 a7 a8 a9 b1 b2 b3 b4 (b5 _ (.tail _ (.tail _ (.head _)))).1 b6 b7 b8 b9)
  have L2 : ChgTo prog w 25 (fun v => [v, .ref f']) (46 :: Ms) (LamS Ms S c [(f', kla_obj name qual params body scope cl pm c' ctv), (c', oc), (cell, ocell)]) (fun st => ∀ z ∈ st.bodies, ok z) (St.toD mk) (St.exch mk fun b => .tup (b.map rebD)) (fun st => st.bodies.flatMap fun b => (postL b).flatMap e) (K + 3) (U + 9) := exch_to @L1 (lamS HS) (fun V l x => ⟨(x.2 _ (.head _)).2, _, _, _, _, (x.2 _ (.head _)).1⟩)
  have up : Sub (Vv V (46 :: Ms) im) (Vv V (46 :: Ms) (mo ++ im)) := vv_sub fun p hp => List.mem_append_right _ hp
  refine call_to (x := st) @L2 (lamS HS) hx rfl B F N hg1 hV hl₀ ⟨⟨hS, hX⟩, List.forall_mem_cons.mpr ⟨⟨up _ _ (.inr kf.1), kf.2⟩, List.forall_mem_cons.mpr ⟨⟨up _ _ kc.1, kc.2⟩, List.forall_mem_cons.mpr ⟨⟨up _ _ (.inr kl.1), kl.2⟩, List.forall_mem_nil _⟩⟩⟩⟩ hv hbd hcv hmo hml hr him hA hdp hu
    fun h' tk' r mo' nw F' N' c1 c2 c3 c4 S' d' => h h' tk' r mo' nw F' N' c1 c2 c3 c4 S'.1 d'
end
noncomputable def isRefL (ds : List D) : Bool := Bool.and (ds.length == 5) (List.casesOn ds false fun d _ => D.casesOn d false (fun _ => false) (fun _ => false) (fun x => x == Str.ofString "ref") (fun _ => false) (fun _ => false))
noncomputable def D.isRef (d : D) : Bool := D.casesOn d false (fun _ => false) (fun _ => false) (fun _ => false) (fun _ => false) isRefL
theorem isRef_len {ds : List D} (h : (D.tup ds).isRef = true) : ds.length = 5 := eq_of_beq (Bool.and_eq_true_iff.mp (show isRefL ds = true from h)).1
theorem len_c {α : Type} {l : List α} {n : Nat} (e : l.length = n + 1) : ∃ a r, l = a :: r ∧ r.length = n := by
  cases l with
  | nil => exact absurd e (Nat.succ_ne_zero n).symm
  | cons a r => exact ⟨a, r, rfl, Nat.succ.inj e⟩
theorem len4 {α : Type} {l : List α} (e : l.length = 4) : ∃ a b c d, l = [a, b, c, d] := by
  obtain ⟨a, l1, h1, e1⟩ := len_c e
  obtain ⟨b, l2, h2, e2⟩ := len_c e1
  obtain ⟨c, l3, h3, e3⟩ := len_c e2
  obtain ⟨d, l4, h4, e4⟩ := len_c e3
  exact ⟨a, b, c, d, by rw [h1, h2, h3, h4, List.eq_nil_of_length_eq_zero e4]⟩
/-- a tuple of five opens with a text -/
noncomputable def D.head5 : D → Prop
  | .tup ds => ds.length = 5 → ∃ x r, ds = .str x :: r
  | _ => True
section
variable {prog : Program} {w : World} {A : Around} {E : Value → Shared → Prop} {s : Shared} {g : Heap} {L a n : Nat} {m : Str → Option Value} {vs : List Value} {K : Frag} {Q : Value → Shared → Prop}
theorem isi_tup (F : Fr g L s.heap m) (X : K.In g) (hg : g.get? a = some (tupOf vs n)) (h : ∀ tk, Q (.bool true) { s with toks := tk }) : wpAny (model prog w) A (call (.builtin "isinstance") [.ref a, .type "tuple"]) Q E s :=
  kia_one (K := K) kitx_tuple (X.keeps F.keep) ⟨_, F.keep _ _ hg, rfl⟩ rfl nofun h
theorem len_tup (F : Fr g L s.heap m) (hg : g.get? a = some (tupOf vs n)) (hz : vs.length ≤ 100000) (h : ∀ t tk, Q (.int vs.length t) { s with toks := tk }) : wpAny (model prog w) A (call (.builtin "len") [.ref a]) Q E s :=
  PyProof.Rows.len_tuple (items := vs.toArray) ⟨_, F.keep _ _ hg, rfl, _, rfl⟩ (by rw [List.size_toArray]; omega) (by rw [List.size_toArray]; exact h _ _)
end
theorem rulesOgIs : True := by
  w_top off
  k_with_none
  k_with "spliced" => ((with_reducible show wpAny _ _ (spliced (backTo _ (starEach (_ :: _) _))) _ _ _); k_dflt (refine' args_at ?ogF ?ogk ?ogv ?_; (case ogF => k_asm); (case ogk => rfl); (case ogv => rfl)); k_whole)
  k_with "eval Constant int" => refine int_at ?_
  k_with "eval Constant str" => refine str_at ?_
  k_with "eval Call" => (k_dflt (first | (refine' callK_at ?ogF ?ogX ?ogT ?oge ?ogf ?ogk ?ogg ?ogd ?ogv ?_; (case ogX => k_asm); (case ogT => k_asm); (case oge => k_is); (case ogf => k_is); (case ogg => rfl); (case ogd => rfl); (case ogF => k_asm); (case ogk => rfl); (case ogv => rfl); k_whole) | (refine' callB_at ?ogF ?ogX ?ogT ?oge ?ogb ?ogi ?ogn ?ogk ?ogg ?ogd ?ogv ?_; (case ogX => k_asm); (case ogT => k_asm); (case oge => k_is); (case ogb => boot_fast); (case ogi => rfl); (case ogn => decide); (case ogg => rfl); (case ogd => rfl); (case ogF => k_asm); (case ogk => rfl); (case ogv => rfl); k_whole)))
  k_with "eval Subscript" => (k_dflt (refine' sub_at ?ogF ?ogk ?ogv ?ogw ?_; (case ogF => k_asm); (case ogk => rfl); (case ogv => rfl); (case ogw => rfl)); k_whole)
  k_with "ite" => (k_closed; k_dflt (first | refine iteT rfl ?_ | refine iteF rfl ?_))
  k_with "isTrue Compare" => (k_dflt (refine' cmp_at ?ogF ?ogk ?ogv ?ogw ?ogb ?_; (case ogF => k_asm); (case ogk => rfl); (case ogv => rfl); (case ogw => rfl); (case ogb => rfl)); k_whole)
  k_with "execs cons" => ((with_reducible refine wpAny_execs_cons ?_); (try dsimp only); (try clear qk ek); (try k_fold))
  k_with "og_mem" => first | with_reducible assumption | (refine memI ?_; with_reducible assumption) | (refine List.mem_append_right _ ?_; k_mem) | (refine List.mem_append_left _ ?_; k_mem)
  k_with "og_neo" => first | exact neLt (by assumption) (by k_mem) | exact neGt (by assumption) (by k_mem) | (refine neN ?_; (try dsimp only); lia)
  k_with "og_ne" => first | assumption | exact Ne.symm (by assumption) | (k_extra "og_neo")
  k_with "og_all" => first | assumption | exact neAll (by assumption) (fun _ h => h) | exact neAll (by assumption) (by intro p hp; k_mem) | exact off1 (by assumption) (by assumption) | exact LCg_lt (by assumption) | exact offL (by assumption) (by k_mem) | exact off_tup (by assumption) (by assumption) (by intro p hp; k_mem) (by k_mem) | (refine List.forall_mem_append.mpr ⟨?_, ?_⟩ <;> k_all) | exact off1 (by assumption) (by lia)
  k_with "og_peel" => ((try dsimp +zetaDelta only [List.nil_append, List.cons_append] at *); (repeat (first | clear ledk | clear mk | clear qk | clear ek)))
  k_with "og_klt" => skip
  k_with "newTuple" => (k_dflt (refine' newtup_le ?ogF ?ogN ?_ ?ogz; (case ogF => k_asm); (case ogN => k_asm); (case ogz => kmk_size)); intro _ _ ledk _ _ l1; (try skip); (try k_sweep); (try (revert l1; intros)))
  k_with "eval Tuple" => (k_dflt (refine' tup_le ?ogF ?ogN ?ogk ?ogv ?ogz ?_; (case ogN => k_asm); (case ogF => k_asm); (case ogk => rfl); (case ogv => rfl); (case ogz => kmk_size)); k_whole; intro _ _ ledk _ _ l1; (try skip); (try k_sweep); (try (revert l1; intros)))
  k_with "storeName" => (k_dflt (refine' store_le ?ogF ?ogN ?_ ?oga ?ogb; (case ogF => k_asm); (case ogN => k_asm); (case oga => rfl); (case ogb => rfl)); k_whole; intro _ mk _ _; (try k_sweep))
  k_with "call builtin:list.append" => ((with_reducible show wpAny _ _ (call (Value.builtin _) [Value.ref _, _]) _ _ _); k_dflt (refine' append_le ?ogF ?ogN ?ogU ?_ ?ogz; (case ogF => k_asm); (case ogN => k_asm); (case ogU => k_upd); (case ogz => ((try simp only [List.length_append, List.length_cons, List.length_nil]); lia))); k_whole; intro _ ledk _ _; (try k_sweep))
  k_with "subscriptTail" => ((with_reducible show wpAny _ _ (subscriptTail _ _ (Value.ref _) (Value.int _ _)) _ _ _); k_dflt (refine' sub_g ?ogk1 ?ogk2 ?ogk3 ?ogk4 ?ogk5 ?ogk6 ?_ ?ogk7; (case ogk1 => k_asm); (case ogk2 => with_reducible assumption); (case ogk3 => decide); (case ogk4 => decide); (case ogk5 => exact rfl); (case ogk6 => exact rfl); (case ogk7 => with_unfolding_all rfl); k_whole))
  k_with "call builtin:isinstance" => ((with_reducible show wpAny _ _ (call _ [Value.ref _, Value.type _]) _ _ _); k_dflt (refine' isi_tup ?ogF ?ogX ?ogg ?_; (case ogF => k_asm); (case ogg => with_reducible assumption); (case ogX => assumption); k_whole); intro _; (try dsimp only))
  k_with "call builtin:len" => (k_dflt (refine' len_tup ?ogF ?ogg ?ogz ?_; (case ogF => k_asm); (case ogg => with_reducible assumption); (case ogz => first | exact Nat.le_of_ble_eq_true rfl | lia); k_whole); intro _ _; (try dsimp only))
  trivial
theorem isref_spec {prog : Program} {w : World} {A : Around} {s : Shared} {G : Heap} {R : Result → Shared → Prop} {v : Value} {d : D} (B : Base w G) (kp : G.StaysIn s.heap) (hv : Dv (Hv s.heap) v d) (h5 : d.head5) (hl : ∀ ds, d = .tup ds → ds.length ≤ 5000)
    (hA : A.handled = none) (hd : A.depth + 10 < 800) (hu : A.units + 20 < 4500) (h : ∀ h' tk', Kp [] s.heap h' → R (.ok (.ret (.bool d.isRef))) { s with heap := h', toks := tk' }) :
    codeAny (model prog w) A (.call (.ref 58) ⟨[v], []⟩) R s := by
  have hrm : A.depth < recursionLimit := Nat.lt_trans (by first | exact Nat.lt_of_le_of_lt (Nat.le_add_right _ _) (Nat.lt_trans hd (by decide)) | exact Nat.lt_of_le_of_lt hd (by decide) | lia) (show 800 < recursionLimit by decide)
  refine' enter (binds := [(Str.ofString "thing", v)]) B kp [] ?_ ?_ ?_ hrm ?_ ?_ ?_ ?_ ?_ ?_ ?_
  any_goals k_is
  any_goals (exact BindsTo.of_eq rfl)
  any_goals (exact locs rfl)
  any_goals (first | rfl | decide)
  · exact List.forall_mem_nil _
  intro g h₁ hg1 hg2 F N B'
  have gv := dv_g hg1 (List.forall_mem_nil _) hv
  have X := B'.X
  obtain ⟨p, loose, mean, mg, mb, Tp⟩ := B'.T
  clear kp B hg2 hrm hv
  cases gv with
  | none => k_steps; all_goals exact h _ _ (kp_fin hg1 F (List.forall_mem_nil _) (Nat.le_refl _))
  | bool b => k_steps; all_goals exact h _ _ (kp_fin hg1 F (List.forall_mem_nil _) (Nat.le_refl _))
  | int i t => k_steps; all_goals exact h _ _ (kp_fin hg1 F (List.forall_mem_nil _) (Nat.le_refl _))
  | str x t => k_steps; all_goals exact h _ _ (kp_fin hg1 F (List.forall_mem_nil _) (Nat.le_refl _))
  | bytes b t => k_steps; all_goals exact h _ _ (kp_fin hg1 F (List.forall_mem_nil _) (Nat.le_refl _))
  | @tup a vs n ds hp hs =>
    have hp : g.get? a = some (tupOf vs n) := hp
    have hl1 := hl _ rfl
    have hl2 := hs.length
    clear hl
    by_cases e5 : vs.length = 5
    · obtain ⟨x, r, rfl⟩ := h5 (by lia)
      cases hs with
      | @cons v0 vr _ _ d0 hs =>
        obtain ⟨t, rfl⟩ := dvstr d0
        obtain ⟨v1, v2, v3, v4, rfl⟩ := len4 (Nat.succ.inj e5)
        obtain ⟨d1, d2, d3, d4, rfl⟩ := len4 hs.length.symm
        clear e5 hl1 hl2 hs
        k_steps
        · exact h _ _ (kp_fin hg1 F (List.forall_mem_nil _) (Nat.le_refl _))
        · k_extra "og_peel"
          rename_i q
          exact absurd rfl q
    · have nref : (D.tup ds).isRef = false := by
        cases e : (D.tup ds).isRef with
        | false => rfl
        | true => exact absurd (isRef_len e) (by lia)
      rw [nref] at h
      k_steps
      · k_extra "og_peel"
        rename_i q
        exfalso; lia
      · k_extra "og_peel"
        rename_i q
        have e9 : ((vs.length : Int) == 5) = false := by simpa using q
        rw [e9]
        exact h _ _ (kp_fin hg1 F (List.forall_mem_nil _) (Nat.le_refl _))
mutual
noncomputable def D.nodes : D → Nat
  | .tup ds => nodesL ds + 1
  | .none => 1
  | .bool _ => 1
  | .int _ => 1
  | .str _ => 1
  | .bytes _ => 1
noncomputable def nodesL : List D → Nat
  | [] => 0
  | d :: r => d.nodes + nodesL r
end
mutual
/-- the references in it, each ahead of those in it -/
noncomputable def D.refsD : D → List D
  | .tup ds => (if (D.tup ds).isRef = true then [D.tup ds] else []) ++ refsL ds
  | .none => []
  | .bool _ => []
  | .int _ => []
  | .str _ => []
  | .bytes _ => []
noncomputable def refsL : List D → List D
  | [] => []
  | d :: r => d.refsD ++ refsL r
end
mutual
noncomputable def D.good : D → Prop
  | .tup ds => (D.tup ds).head5 ∧ goodL ds
  | .none => True
  | .bool _ => True
  | .int _ => True
  | .str _ => True
  | .bytes _ => True
noncomputable def goodL : List D → Prop
  | [] => True
  | d :: r => d.good ∧ goodL r
end
theorem good_h5 {d : D} (h : d.good) : d.head5 := by
  cases d <;> first | exact trivial | (rw [D.good.eq_1] at h; exact h.1)
theorem nodes_pos (d : D) : 1 ≤ d.nodes := by
  cases d with
  | tup ds => rw [D.nodes.eq_1]; lia
  | none => rw [D.nodes.eq_2]; lia
  | bool b => rw [D.nodes.eq_3]; lia
  | int b => rw [D.nodes.eq_4]; lia
  | str b => rw [D.nodes.eq_5]; lia
  | bytes b => rw [D.nodes.eq_6]; lia
theorem nodesL_len : ∀ l : List D, l.length ≤ nodesL l
  | [] => Nat.zero_le _
  | d :: r => by
    have := nodesL_len r
    have := nodes_pos d
    rw [nodesL.eq_2, List.length_cons]; lia
theorem nodesL_app (x y : List D) : nodesL (x ++ y) = nodesL x + nodesL y := by
  induction x with
  | nil => rw [nodesL.eq_1, List.nil_append]; lia
  | cons a r ih => rw [List.cons_append, nodesL.eq_2, nodesL.eq_2, ih]; lia
theorem refsL_app (x y : List D) : refsL (x ++ y) = refsL x ++ refsL y := by
  induction x with
  | nil => rw [refsL.eq_1, List.nil_append]; rfl
  | cons a r ih => rw [List.cons_append, refsL.eq_2, refsL.eq_2, ih, List.append_assoc]
theorem goodL_app {x y : List D} (h1 : goodL x) (h2 : goodL y) : goodL (x ++ y) := by
  induction x with
  | nil => exact h2
  | cons a r ih => rw [List.cons_append, goodL.eq_2]; rw [goodL.eq_2] at h1; exact ⟨h1.1, ih h1.2⟩
section
variable {prog : Program} {w : World} {A : Around} {E : Value → Shared → Prop} {s : Shared} {g h₀ : Heap} {L a n n2 : Nat} {m : Str → Option Value} {vs xs ys : List Value} {K : Frag} {led led' nw : List (Addr × Obj)} {Q : Value → Shared → Prop}
theorem isi_tupL (F : Fr g L s.heap m) (N : News g L s.heap led) (X : K.In g) (hx : Lv g nw a (tupOf vs n)) (hn : ∀ p ∈ nw, p ∈ led) (h : ∀ tk, Q (.bool true) { s with toks := tk }) : wpAny (model prog w) A (call (.builtin "isinstance") [.ref a, .type "tuple"]) Q E s :=
  kia_one (K := K) kitx_tuple (X.keeps F.keep) ⟨_, lv_get F N hn hx, rfl⟩ rfl nofun h
theorem fr_kp {h h' : Heap} (F : Fr g L h m) (k : Kp [] h h') : Fr g L h' m := by
  obtain ⟨o, es, ep, ho, r⟩ := F.ns
  exact ⟨⟨o, es, ep, k.keep _ _ ho (List.not_mem_nil), r⟩, fun b o e => k.keep _ _ (F.keep _ _ e) (List.not_mem_nil), F.above⟩
theorem news_kp {h h' : Heap} (N : News g L h led) (k : Kp [] h h') : News g L h' led := fun p hp => ⟨k.keep _ _ (N p hp).1 (List.not_mem_nil), (N p hp).2⟩
theorem call_isref {v : Value} {d : D} {b : Bool} (B : Base w g) (F : Fr g L s.heap m) (N : News g L s.heap led) (hv : Dv (Lv g nw) v d) (hn : ∀ p ∈ nw, p ∈ led) (h5 : d.head5) (hb : d.isRef = b) (hl : ∀ ds, d = .tup ds → ds.length ≤ 5000)
    (hA : A.handled = none) (hd : A.depth + 10 < 800) (hu : A.units + 20 < 4500) (h : ∀ h' tk', Fr g L h' m → News g L h' led → Q (.bool b) { s with heap := h', toks := tk' }) :
    wpAny (model prog w) A (call (.ref 58) [v]) Q E s := by
  subst hb
  exact wpAny_call (isref_spec B F.keep (dv_up F N hn hv) h5 hl hA hd hu fun h' tk' k => h h' tk' (fr_kp F k) (news_kp N k))
theorem ext_t {D' b : Nat} (F : Fr g L s.heap m) (N : News g L s.heap led) (hb : s.heap.get? b = some (tupOf ys n2)) (U : Upd D' (listOf xs.toArray n) (listOf (xs ++ ys).toArray (if ys.length = 0 then n else n + 1)) led led')
    (hz : xs.length + ys.length ≤ 100000) (h : ∀ h', Fr g L h' m → News g L h' led' → Q .none { s with heap := h' }) : wpAny (model prog w) A (call (.builtin "list.extend") [.ref D', .ref b]) Q E s := by
  obtain ⟨pre, post, rfl, rfl, a, c⟩ := U.split
  have z := N (D', listOf xs.toArray n) (List.mem_append.mpr (.inr (.head _)))
  have hs : sizeLine = 2 ^ 24 := rfl
  refine call_meets PySem.F.slot_list_extend ⟨_, z.1, rfl⟩ PySem.F.entry_list_extend (PySem.F.args_list_extend_2 _ _) (PySem.AutoSeq1.list_extend_list_tuple_0 D' xs.toArray n b ys.toArray n2 ?_ (by simp; lia) (by simp; lia))
    ⟨z.1, hb, h _ (F.change (Heap.SameBut.update ..) z.2.1 z.2.2) (ki_turn _ N a c ?_ ?_)⟩
  · simp [Builtin.List.listTooLong]; lia
  · apply Array.toList_inj.mp; simp
  · simp
theorem ext_tL {D' b : Nat} (F : Fr g L s.heap m) (N : News g L s.heap led) (hb : (b, tupOf ys n2) ∈ led) (U : Upd D' (listOf xs.toArray n) (listOf (xs ++ ys).toArray (if ys.length = 0 then n else n + 1)) led led')
    (hz : xs.length + ys.length ≤ 100000) (h : ∀ h', Fr g L h' m → News g L h' led' → Q .none { s with heap := h' }) : wpAny (model prog w) A (call (.builtin "list.extend") [.ref D', .ref b]) Q E s := ext_t F N (N.get hb) U hz h
theorem rev_tL {value slice : Expr} {u tk : Tok} {gn dr os} {ops : List Value} (F : Fr g L h₀ m) (N : News g L h₀ led) (hx : Lv g nw a (tupOf vs n)) (hn : ∀ p ∈ nw, p ∈ led) (hz : vs.length ≤ 100000) (h : ∀ D' h', Fr g L h' m → News g L h' ((D', tupOf vs.reverse 0) :: led) → (∀ p ∈ led, p.1 < D') → L < D' → Q (.ref D') { heap := h', gens := gn, drawn := dr, toks := tk, os := os })
    (hs : subscripted slice false (.ref a) (.ref h₀.objs.size) = operate ops (getItem (.ref a) (.ref h₀.objs.size))) (hgo : ∀ r, letTemporaryGo value (.ref a) r = pure ()) :
    wpAny (model prog w) A (subscriptTail value slice (.ref a) (.ref h₀.objs.size)) Q E { heap := h₀.push { cls := .type "slice", data := .fields #[.none, .none, .int (-1) u] }, gens := gn, drawn := dr, toks := tk, os := os } :=
  slice_tup (s := ⟨h₀, gn, dr, tk, os⟩) (a := (vs.length : Int) - 1) (b := -1) (k := -1) (zs := vs.reverse) F N ⟨_, lv_get F N hn hx, rfl, _, rfl⟩ .none .none (.int (-1) u) rfl (by decide) (by rw [List.size_toArray]; exact rev_adjust _) (by rw [show ((-1 : Int) == 1) = false from rfl, Bool.and_false, Bool.false_and]) (by rw [rev_places]; exact rev_pick vs)
    (by have : sizeLine = 2 ^ 24 := rfl; rw [List.length_reverse]; lia) h hs hgo
theorem keepS0 {keep : List (Addr × Obj)} : ChgS [] (fun V (_ : List D) => KeepX keep (Fz V [])) := ⟨fun hs x => keep_up (fz_sub hs) x, fun _ => List.forall_mem_nil _⟩
theorem func_nt {oc : Value} {od : Option Addr} {fd : FuncData} {sl : Array (Option Value)} : ∀ vs n, (⟨oc, od, .func fd, sl⟩ : Obj) ≠ tupOf vs n := fun vs n e => by cases congrArg Obj.data e
theorem fields_nt {oc : Obj} {vs' : Array Value} (h : oc.data = .fields vs') : ∀ vs n, oc ≠ tupOf vs n := fun vs n e => by
  rw [e] at h; cases h
/-- exchanged_bodies with the lambda that gives the empty tuple -/
theorem call_exch_nil {f' c' : Nat} {oc : Obj} {name qual an mk : Str} {params : Arguments} {body : Expr} {scope : Scope} {cl : List (Str × Addr)} {pm ctv : Value} {vs' : Array Value} {t' : Tok} {st : St} {v : Value} {im : List (Addr × Obj)}
    (B : Base w g) (F : Fr g L s.heap m) (N : News g L s.heap led) (mfl : (f', kla_obj name qual params body scope cl pm c' ctv) ∈ led) (kf : (f', kla_obj name qual params body scope cl pm c' ctv) ∈ im) (kc : Lv g im c' oc) (him : ∀ p ∈ im, p ∈ led) (hnt : ∀ p ∈ im, ∀ vs n, p.2 ≠ tupOf vs n)
    (hv : Dv (Hv g) v (st.toD mk)) (hA : A.handled = none) (hdp : A.depth + 10 < 800) (hu : A.units + 20 < 4500) (hocd : oc.data = .fields vs') (hq : vs'[1]? = some (.str qual t'))
    (hbind : ∀ v, bindArgs (kla_fn name qual params body scope cl pm (.ref c') ctv) ⟨[v], []⟩ = pure [(an, v)]) (hloc : scope.names.lookup an = some .local) (hcell : ∀ x ∈ scope.names, x.2 ≠ .cell)
    (hco : scope.isCoroutine = false) (hgen : scope.isGenerator = false) (hk : scope.kind = .function)
    (turn : ∀ {A : Around} {s : Shared} {g h₁ : Heap} {L tk : Nat} {v : Value} {Q : Value → Shared → Prop}, A.handled = none → A.depth + 2 < 800 → A.units + 6 < 4500 → Base w g → Fr g L h₁ (fun y => [(an, v)].reverse.lookup y) → News g L h₁ [] →
      (∀ h' tk' T m', Fr g L h' m' → News g L h' [(T, tupOf [] 0)] → Q (.ref T) { s with heap := h', toks := tk' }) →
      wpAny (model prog w) (A.deeper (envX qual scope L f' (.ref c') cl)) (eval body (envX qual scope L f' (.ref c') cl)) Q (fun _ _ => False) { s with heap := h₁, toks := tk })
    (h : ∀ h' tk' r nw, Fr g L h' m → News g L h' (led ++ nw) → (∀ p ∈ nw, ∀ q ∈ led, p.1 ≠ q.1) → Dv (Lv g nw) r (st.exch mk fun _ => .tup []) → Q r { s with heap := h', toks := tk' }) :
    wpAny (model prog w) A (call (.ref 25) [v, .ref f']) Q E s := by
  have L1 : ChgTo prog w f' (fun v => [v]) [] (fun V (_ : List D) => KeepX [(f', kla_obj name qual params body scope cl pm c' ctv), (c', oc)] (Fz V [])) (fun _ : List St => True) (fun b => .tup (toDs mk b)) (fun _ => .tup []) (fun _ => []) 2 6 :=
    chg_lam (prog := prog) (w := w) (keep := [(f', kla_obj name qual params body scope cl pm c' ctv), (c', oc)]) (S := (fun V (_ : List D) => KeepX [(f', kla_obj name qual params body scope cl pm c' ctv), (c', oc)] (Fz V []))) (ok := fun _ : List St => True) (δ := fun b => .tup (toDs mk b)) (f := fun _ => .tup []) (e := fun _ => []) keepS0 (fun V l x => x) (.head _) (.tail _ (.head _)) hocd hq hbind hloc hcell hco hgen hk
    (by
      intro A s g h₁ h₀ L tk v x l V mo Q _ hA hd hu hg1 F N B hV hl hc hm hS hkp htg hv hb hQ
      have hmo : mo = [] := by
        cases mo with
        | nil => rfl
        | cons p r => exact absurd (hm p (.head _)) List.not_mem_nil
      subst hmo
      refine turn hA hd hu B F N fun h' tk' T m' F' N' => hQ h' tk' (.ref T) [] [(T, tupOf [] 0)] [(T, tupOf [] 0)] m' F' N' (fun p hp => hp) (fun p hp => ⟨?_, List.not_mem_nil⟩) (.tup (n := 0) (.inr (.head _)) .nil)
      have hS9 := hS p hp
      rcases hS9.1 with q | q
      · exact .inl q
      · exact absurd q List.not_mem_nil)
  have L2 : ChgTo prog w 25 (fun v => [v, .ref f']) [] (fun V (_ : List D) => KeepX [(f', kla_obj name qual params body scope cl pm c' ctv), (c', oc)] (Fz V [])) (fun st => ∀ z ∈ st.bodies, True) (St.toD mk) (St.exch mk fun _ => .tup []) (fun st => st.bodies.flatMap fun _ => []) (2 + 3) (6 + 9) :=
    exch_to @L1 keepS0 (fun V l x => ⟨List.not_mem_nil, _, _, _, _, (x _ (.head _)).1⟩)
  have e0 : ∀ l : List (List St), l.flatMap (fun _ => ([] : List D)) = [] := fun l => by induction l with
    | nil => rfl
    | cons a r ih => rw [List.flatMap_cons, ih]; rfl
  refine call_to (x := st) (V := Hv g) (h₀ := g) (led₀ := []) (l := []) (mo := []) (im := im) @L2 keepS0 (fun _ _ => trivial) rfl B F N (fun b o e _ => e) (fun _ _ e => e) (List.forall_mem_nil _)
    (List.forall_mem_cons.mpr ⟨⟨.inr kf, List.not_mem_nil⟩, List.forall_mem_cons.mpr ⟨⟨kc.imp (fun e => ⟨e, List.not_mem_nil⟩) id, List.not_mem_nil⟩, List.forall_mem_nil _⟩⟩) (hv.mono fun a vs n e => .inl ⟨e, List.not_mem_nil⟩) (by rw [e0]; simp)
    (List.forall_mem_nil _) (List.forall_mem_nil _) (List.forall_mem_nil _) (RestV.keepsEnd fun _ _ => List.not_mem_nil) him hA (by lia) (by lia) fun h' tk' r mo' nw F' N' c1 c2 c3 c4 S' d' => ?_
  have hmo : mo' = [] := by
    cases mo' with
    | nil => rfl
    | cons p r => exact absurd (c2 p (.head _)) List.not_mem_nil
  subst hmo
  exact h h' tk' r nw F' N' c3 (d'.mono fun a vs n e => e.imp (fun q => q.1) fun q => (List.mem_append.mp q).resolve_left fun q => hnt _ q _ _ rfl)
/-- the loop of refs_within -/
noncomputable def RefJ (g : Heap) (aF aL : Nat) (m0 : Str → Option Value) (K : List (Addr × Obj)) (tot : List D) (n : Nat) (m₁ : Str → Option Value) (news₁ : List (Addr × Obj)) : Prop :=
  ∃ (o : Option Value) (nw : List (Addr × Obj)) (fs ls : List Value) (nF nL : Nat) (done todo : List D), m₁ = (fun y => if y = Str.ofString "one" then o else m0 y) ∧
    news₁ = (aF, listOf fs.toArray nF) :: (aL, listOf ls.toArray nL) :: nw ∧ (∀ p ∈ K, p ∈ nw) ∧ Dvs (Lv g nw) fs done ∧ Dvs (Lv g nw) ls todo.reverse ∧
    ((∀ p ∈ nw, p.1 ≠ aF) ∧ (∀ p ∈ nw, p.1 ≠ aL)) ∧ done ++ refsL todo = tot ∧ goodL todo ∧ done.length + nodesL todo ≤ 2000 ∧ n = nodesL todo
theorem goodL_tup {ds : List D} (h : (D.tup ds).good) : goodL ds := by rw [D.good.eq_1] at h; exact h.2
noncomputable abbrev qualW : Str := Str.ofString "refs_within.<locals>.<lambda>"
end
noncomputable def D.isAtom : D → Bool
  | .tup _ => false
  | _ => true
theorem D.atom_or (d : D) : d.isAtom = true ∨ ∃ ds, d = .tup ds := by
  cases d
  case tup ds => exact .inr ⟨ds, rfl⟩
  all_goals exact .inl rfl
theorem atom_ref {d : D} (h : d.isAtom = true) : d.isRef = false := by
  cases d
  case tup => cases h
  all_goals rfl
section
variable {prog : Program} {w : World} {A : Around} {E : Value → Shared → Prop} {s : Shared} {g : Heap} {L : Nat} {m : Str → Option Value} {K : Frag} {Q : Value → Shared → Prop} {P : Addr → Obj → Prop} {v : Value} {t : D}
theorem isi_atom (dt : Dv P v t) (ha : t.isAtom = true) (F : Fr g L s.heap m) (X : K.In g) (h : ∀ tk, Q (.bool false) { s with toks := tk }) : wpAny (model prog w) A (call (.builtin "isinstance") [v, .type "tuple"]) Q E s := by
  cases dt with
  | none => exact kia_one (K := K) kitx_none (X.keeps F.keep) trivial rfl nofun h
  | bool => exact kia_one (K := K) kitx_bool (X.keeps F.keep) trivial rfl nofun h
  | int => exact kia_one (K := K) kitx_int (X.keeps F.keep) trivial rfl nofun h
  | str => exact kia_one (K := K) kitx_str (X.keeps F.keep) trivial rfl nofun h
  | bytes => exact kia_one (K := K) kitx_bytes (X.keeps F.keep) trivial rfl nofun h
  | tup => cases ha
end
theorem rulesOgBody : True := by
  w_top off
  k_with_none
  k_with "spliced" => ((with_reducible show wpAny _ _ (spliced (backTo _ (starEach (_ :: _) _))) _ _ _); k_dflt (refine' args_at ?ogF ?ogk ?ogv ?_; (case ogF => k_asm); (case ogk => rfl); (case ogv => rfl)); k_whole)
  k_with "eval Constant int" => refine int_at ?_
  k_with "eval Constant str" => refine str_at ?_
  k_with "eval Call" => (k_dflt (first | (refine' callK_at ?ogF ?ogX ?ogT ?oge ?ogf ?ogk ?ogg ?ogd ?ogv ?_; (case ogX => k_asm); (case ogT => k_asm); (case oge => k_is); (case ogf => k_is); (case ogg => rfl); (case ogd => rfl); (case ogF => k_asm); (case ogk => rfl); (case ogv => rfl); k_whole) | (refine' callB_at ?ogF ?ogX ?ogT ?oge ?ogb ?ogi ?ogn ?ogk ?ogg ?ogd ?ogv ?_; (case ogX => k_asm); (case ogT => k_asm); (case oge => k_is); (case ogb => boot_fast); (case ogi => rfl); (case ogn => decide); (case ogg => rfl); (case ogd => rfl); (case ogF => k_asm); (case ogk => rfl); (case ogv => rfl); k_whole)))
  k_with "eval Subscript" => (k_dflt (refine' sub_at ?ogF ?ogk ?ogv ?ogw ?_; (case ogF => k_asm); (case ogk => rfl); (case ogv => rfl); (case ogw => rfl)); k_whole)
  k_with "ite" => (k_closed; k_dflt (first | refine iteT rfl ?_ | refine iteF rfl ?_))
  k_with "isTrue Compare" => (k_dflt (refine' cmp_at ?ogF ?ogk ?ogv ?ogw ?ogb ?_; (case ogF => k_asm); (case ogk => rfl); (case ogv => rfl); (case ogw => rfl); (case ogb => rfl)); k_whole)
  k_with "execs cons" => ((with_reducible refine wpAny_execs_cons ?_); (try dsimp only); (try clear qk ek); (try k_fold))
  k_with "og_mem" => first | with_reducible assumption | (refine memI ?_; with_reducible assumption) | (refine List.mem_append_right _ ?_; k_mem) | (refine List.mem_append_left _ ?_; k_mem)
  k_with "og_neo" => first | exact neLt (by assumption) (by k_mem) | exact neGt (by assumption) (by k_mem) | (refine neN ?_; (try dsimp only); lia)
  k_with "og_ne" => first | assumption | exact Ne.symm (by assumption) | (k_extra "og_neo")
  k_with "og_all" => first | assumption | exact neAll (by assumption) (fun _ h => h) | exact neAll (by assumption) (by intro p hp; k_mem) | exact off1 (by assumption) (by assumption) | exact LCg_lt (by assumption) | exact offL (by assumption) (by k_mem) | exact off_tup (by assumption) (by assumption) (by intro p hp; k_mem) (by k_mem) | (refine List.forall_mem_append.mpr ⟨?_, ?_⟩ <;> k_all) | exact off1 (by assumption) (by lia)
  k_with "og_d" => first | exact dlt hd rfl rfl | exact dlt0 hd rfl rfl | exact dle hd rfl rfl | exact dle0 hd rfl rfl | exact dlq hd rfl rfl | exact dlq0 hd rfl rfl | exact dmk hd rfl | exact drk hd rfl | exact drk0 hd rfl | (simp only [depth_deeper, depth_in1]; lia)
  k_with "og_u" => first | exact dlt hu rfl rfl | exact dlt0 hu rfl rfl | exact dle hu rfl rfl | exact dle0 hu rfl rfl | exact dlq hu rfl rfl | exact dlq0 hu rfl rfl | exact umk hu rfl | exact urk hu rfl | exact urk0 hu rfl | (simp only [units_deeper, units_in1]; lia)
  k_with "og_lt" => first | with_reducible assumption | lia
  k_with "og_n" => first | assumption | exact Ne.symm (by assumption) | (k_extra "og_neo")
  k_with "og_peel" => ((try dsimp +zetaDelta only [List.nil_append, List.cons_append] at *); (repeat (first | clear ledk | clear mk | clear qk | clear ek)))
  k_with "og_rest" => (repeat' (first | exact Rest.nil | (refine' Rest.skip ?ogr1 ?_; (case ogr1 => k_mem)) | (refine' Rest.keep ?ogr1 ?_; (case ogr1 => first | exact al5 (by k_extra "og_n") (by k_extra "og_n") (by k_extra "og_n") (by k_extra "og_n") (by k_extra "og_n") | exact al3 (by k_extra "og_n") (by k_extra "og_n") (by k_extra "og_n") | (repeat' (first | exact List.forall_mem_nil _ | (refine List.forall_mem_cons.mpr ⟨?_, ?_⟩) | assumption | exact Ne.symm (by assumption) | (k_extra "og_neo"))))) | (refine' Rest.app ?ogr1 ?_; (case ogr1 => assumption)) | (refine' Rest.tail ?ogr1; (case ogr1 => assumption)) | (refine' Rest.offApp ?ogr1 ?_; (case ogr1 => first | assumption | exact off5 (by assumption) (by k_extra "og_lt") (by k_extra "og_lt") (by k_extra "og_lt") (by k_extra "og_lt") (by k_extra "og_lt") | exact off2 (by assumption) (by k_extra "og_lt") (by k_extra "og_lt") (by k_extra "og_lt"))) | (refine' Rest.off ?ogr1; (case ogr1 => first | assumption | exact off5 (by assumption) (by k_extra "og_lt") (by k_extra "og_lt") (by k_extra "og_lt") (by k_extra "og_lt") (by k_extra "og_lt") | exact off2 (by assumption) (by k_extra "og_lt") (by k_extra "og_lt") (by k_extra "og_lt")))))
  k_with "og_klt" => skip
  k_with "newTuple" => (k_dflt (refine' newtup_le ?ogF ?ogN ?_ ?ogz; (case ogF => k_asm); (case ogN => k_asm); (case ogz => kmk_size)); intro _ _ ledk _ _ l1; (try skip); (try k_sweep); (try (revert l1; intros)))
  k_with "eval Tuple" => (k_dflt (refine' tup_le ?ogF ?ogN ?ogk ?ogv ?ogz ?_; (case ogN => k_asm); (case ogF => k_asm); (case ogk => rfl); (case ogv => rfl); (case ogz => kmk_size)); k_whole; intro _ _ ledk _ _ l1; (try skip); (try k_sweep); (try (revert l1; intros)))
  k_with "storeName" => (k_dflt (refine' store_le ?ogF ?ogN ?_ ?oga ?ogb; (case ogF => k_asm); (case ogN => k_asm); (case oga => rfl); (case ogb => rfl)); k_whole; intro _ mk _ _; (try k_sweep))
  k_with "call builtin:list.append" => ((with_reducible show wpAny _ _ (call (Value.builtin _) [Value.ref _, _]) _ _ _); k_dflt (refine' append_le ?ogF ?ogN ?ogU ?_ ?ogz; (case ogF => k_asm); (case ogN => k_asm); (case ogU => k_upd); (case ogz => ((try simp only [List.length_append, List.length_cons, List.length_nil]); lia))); k_whole; intro _ ledk _ _; (try k_sweep))
  k_with "call builtin:len" => (k_dflt (refine' len_i ?ogk1 ?ogk2 ?ogk3 ?ogk4 ?_; (case ogk1 => k_asm); (case ogk2 => k_mem); (case ogk3 => with_reducible assumption); (case ogk4 => lia); k_whole); intro _ _; (try dsimp only))
  k_with "setItem ref int" => (k_dflt (refine' set_l ?ogk1 ?ogk2 ?ogk3 ?ogk4 ?ogk5 ?ogk6 ?ogk7 ?_; (case ogk1 => k_asm); (case ogk2 => k_asm); (case ogk3 => k_upd); (case ogk4 => rfl); (case ogk5 => decide); (case ogk6 => decide); (case ogk7 => (simp only [List.length_cons, List.length_nil]; decide)); k_whole); intro _ _ _; (try dsimp only [List.set]); (try k_sweep))
  k_with "call ref" => (k_dflt (refine' call_draw ?ogb1 ?ogb2 ?ogb3 ?ogb4 ?ogb5 ?ogb6 ?ogb7 ?ogb8 ?ogb9 ?ogc1 ?ogc2 ?ogc3 ?ogc4 ?ogc5 ?_; (case ogb1 => assumption); (case ogb2 => k_asm); (case ogb3 => k_asm); (case ogb4 => k_mem); (case ogb5 => k_mem); (case ogb6 => with_reducible assumption); (case ogb7 => assumption); (case ogb8 => repeat' (first | exact Rest.nil | (refine' Rest.skip ?ogr1 ?_; (case ogr1 => k_mem)) | (refine' Rest.keep ?ogr1 ?_; (case ogr1 => (repeat' (first | exact List.forall_mem_nil _ | (refine List.forall_mem_cons.mpr ⟨?_, ?_⟩) | assumption | exact Ne.symm (by assumption) | (k_extra "og_neo"))))) | (refine' Rest.app ?ogr1 ?_; (case ogr1 => assumption)) | (refine' Rest.tail ?ogr1; (case ogr1 => assumption)) | (refine' Rest.offApp ?ogr1 ?_; (case ogr1 => assumption)) | (refine' Rest.off ?ogr1; (case ogr1 => assumption)))); (case ogb9 => k_asm); (case ogc1 => (k_extra "og_d")); (case ogc2 => (k_extra "og_u")); (case ogc3 => lia); (case ogc4 => ((try simp only [dnew_t]); lia)); (case ogc5 => first | exact .inl rfl | exact .inr rfl); k_whole); intro _ _ _ _ _ _ _ _ _ _ _ _ _; (try dsimp only); (try k_sweep))
  k_with "subscriptTail" => ((with_reducible show wpAny _ _ (subscriptTail _ _ (Value.ref _) (Value.int (-1) _)) _ _ _); k_dflt (refine' last_l ?ogk1 ?ogk2 ?ogk3 ?_ ?ogk4; (case ogk1 => k_asm); (case ogk2 => k_mem); (case ogk3 => lia); (case ogk4 => with_unfolding_all rfl); k_whole))
  k_with "call ref" => (k_dflt (refine' call_ref ?ogb0 ?ogb1 ?ogb2 ?ogb3 ?ogb4 ?ogb5 ?ogbR ?ogb6 ?ogb7 ?ogb8 ?ogbl ?ogb9 ?ogc1 ?ogc2 ?ogc3 ?ogd1 ?ogd2 ?ogc4 ?ogc5 ?ogc6 ?ogc7 ?_; (case ogb0 => assumption); (case ogb1 => assumption); (case ogb2 => k_asm); (case ogb3 => k_asm); (case ogc7 => first | exact .inl ⟨by lia, rfl⟩ | exact .inr ⟨rfl, rfl⟩); (case ogb4 => k_mem); (case ogb5 => k_mem); (case ogbR => k_mem); (case ogb6 => with_reducible assumption); (case ogb7 => assumption); (case ogb8 => (k_extra "og_rest")); (case ogbl => first | lia | (simp only [List.length_nil]; lia)); (case ogb9 => k_asm); (case ogc1 => (k_extra "og_d")); (case ogc2 => (k_extra "og_u")); (case ogc3 => (k_extra "og_neo")); (case ogd1 => (k_extra "og_neo")); (case ogd2 => (k_extra "og_neo")); (case ogc4 => ((try simp only [dnew_t]); lia)); (case ogc5 => assumption); (case ogc6 => lia); k_whole); intro h' tk' tk2 n' n2' vs' imm r nvs nR' F' ct lo N' hi ok' dv hnl; (try dsimp only); (try simp only [List.cons_append, List.nil_append, List.append_assoc] at N'); (try k_sweep); (try (revert h' tk' tk2 n' n2' vs' imm r nvs nR' F' ct lo N' hi ok' dv hnl; intros)))
  k_with "call builtin:list.extend" => (k_dflt (refine' ext_l ?ogF ?ogN ?ogb ?ogU ?ogz ?_; (case ogF => k_asm); (case ogN => k_asm); (case ogb => k_mem); (case ogU => k_upd); (case ogz => (first | exact Nat.le_of_ble_eq_true rfl | ((try simp only [List.length_append, List.length_cons, List.length_nil]); lia))); k_whole); intro h' F' N'; (try dsimp only); (try k_sweep); (try (revert h' F' N'; intros)))
  k_with "call ref" => (k_dflt (refine' call_made ?ogb0 ?ogb1 ?ogb2 ?ogb3 ?oghT ?oghC ?oghN ?ogh0 ?ogh1 ?ogh2 ?oghv ?ogok ?ognd ?oghr ?ogl0 ?ogl1 ?ogl2 ?ogt ?ogmk ?oghA ?oghd ?oghu ?_; (case ogb0 => assumption); (case ogb1 => assumption); (case ogb2 => k_asm); (case ogb3 => k_asm); (case oghT => k_mem); (case oghC => k_mem); (case oghN => k_mem); (case ogh0 => k_mem); (case ogh1 => k_mem); (case ogh2 => k_mem); (case oghv => with_reducible assumption); (case ogok => assumption); (case ognd => assumption); (case oghr => first | assumption | (k_extra "og_rest")); (case ogl0 => (first | exact Nat.le_of_ble_eq_true rfl | ((try simp only [List.length_append, List.length_cons, List.length_nil]); lia))); (case ogl1 => (first | exact Nat.le_of_ble_eq_true rfl | ((try simp only [List.length_append, List.length_cons, List.length_nil]); lia))); (case ogl2 => (first | exact Nat.le_of_ble_eq_true rfl | ((try simp only [List.length_append, List.length_cons, List.length_nil]); lia))); (case ogt => ((try simp only [dnew_t]); lia)); (case ogmk => assumption); (case oghA => k_asm); (case oghd => (k_extra "og_d")); (case oghu => (k_extra "og_u")); k_whole); intro h' tk' r vs0 vs1 vs2 fz imm vs' tk2 n n' n0' n1' n2' F' ct hi ok' N' lo lo2 lz dv0 dv1 dv2; (try dsimp only); (try simp only [List.cons_append, List.nil_append, List.append_assoc] at N'); (try k_sweep); (try (revert h' tk' r vs0 vs1 vs2 fz imm vs' tk2 n n' n0' n1' n2' F' ct hi ok' N' lo lo2 lz dv0 dv1 dv2; intros)))
  k_with "call ref" => (k_dflt (refine' call_body ?ogb0 ?ogb1 ?ogb2 ?ogb3 ?oghT ?oghC ?oghN ?ogh0 ?ogh1 ?ogh2 ?oghv ?ogok ?ognd ?oghr ?ogl0 ?ogl1 ?ogl2 ?ogt ?ogmk ?oghA ?oghd ?oghu ?ogdp ?_; (case ogb0 => assumption); (case ogb1 => assumption); (case ogb2 => k_asm); (case ogb3 => k_asm); (case oghT => k_mem); (case oghC => k_mem); (case oghN => k_mem); (case ogh0 => k_mem); (case ogh1 => k_mem); (case ogh2 => k_mem); (case oghv => with_reducible assumption); (case ogok => assumption); (case ognd => assumption); (case oghr => first | assumption | (k_extra "og_rest")); (case ogl0 => (first | exact Nat.le_of_ble_eq_true rfl | ((try simp only [List.length_append, List.length_cons, List.length_nil]); lia))); (case ogl1 => (first | exact Nat.le_of_ble_eq_true rfl | ((try simp only [List.length_append, List.length_cons, List.length_nil]); lia))); (case ogl2 => (first | exact Nat.le_of_ble_eq_true rfl | ((try simp only [List.length_append, List.length_cons, List.length_nil]); lia))); (case ogt => ((try simp only [dnew_t]); lia)); (case ogmk => assumption); (case oghA => k_asm); (case oghd => (k_extra "og_d")); (case oghu => (k_extra "og_u")); (case ogdp => lia); k_whole); intro h' tk' r vs0 vs1 vs2 fz imm vs' tk2 n n' n0' n1' n2' F' ct hi ok' N' lo lo2 lz dv0 dv1 dv2 dvr htt hl0 hl1 hl2; (try dsimp only); (try simp only [List.cons_append, List.nil_append, List.append_assoc] at N'); (try k_sweep); (try (revert h' tk' r vs0 vs1 vs2 fz imm vs' tk2 n n' n0' n1' n2' F' ct hi ok' N' lo lo2 lz dv0 dv1 dv2 dvr htt hl0 hl1 hl2; intros)))
  k_with "call ref" => (k_dflt (refine' call_ref3 ?ogb0 ?ogb1 ?ogb2 ?ogb3 ?ogb4 ?ogb5 ?ogbR ?ogb6 ?ogb7 ?ogb8 ?ogbl ?ogb9 ?ogc1 ?ogc2 ?ogc3 ?ogd1 ?ogd2 ?ogc4 ?ogc5 ?_; (case ogb0 => assumption); (case ogb1 => assumption); (case ogb2 => k_asm); (case ogb3 => k_asm); (case ogb4 => k_mem); (case ogb5 => k_mem); (case ogbR => k_mem); (case ogb6 => with_reducible assumption); (case ogb7 => assumption); (case ogb8 => (k_extra "og_rest")); (case ogbl => (first | exact Nat.le_of_ble_eq_true rfl | ((try simp only [List.length_append, List.length_cons, List.length_nil]); lia))); (case ogb9 => k_asm); (case ogc1 => (k_extra "og_d")); (case ogc2 => (k_extra "og_u")); (case ogc3 => k_ne); (case ogd1 => k_ne); (case ogd2 => k_ne); (case ogc4 => ((try simp only [dnew_t]); lia)); (case ogc5 => assumption); k_whole); intro h' tk' tk2 n' n2' vs' imm r nvs nR' F' ct lo N' hi ok' dv hnl htt; (try dsimp only); (try simp only [List.cons_append, List.nil_append, List.append_assoc] at N'); (try k_sweep); (try (revert h' tk' tk2 n' n2' vs' imm r nvs nR' F' ct lo N' hi ok' dv hnl htt; intros)))
  trivial
-- the call of _law_draw
-- the call of _law_ref
-- the calls of _law_made, _law_body
/-- what stands between the turns of _law_body's comprehension -/
inductive BodyI (d : Nat) (B0 : List St × Tape) (t0 : Int) (mark : Str) (L aT aC a0 a1 a2 aN nN : Nat) (l : Lists) (o1 o2 o3 o4 : Obj) (k : Nat) (ys : List Value) : List (Addr × Obj) → Prop
  | mk (Tc : Tape) (sts : List St) (vs0 vs1 vs2 : List Value) (fz imm : List (Addr × Obj)) (vsT : List Value) (tk n nc n0 n1 n2 : Nat)
      (hb : B0 = (sts ++ (bodyF (madeF d) k Tc (l.v0.length + vs0.length)).1, (bodyF (madeF d) k Tc (l.v0.length + vs0.length)).2))
      (okc : TapeOk Tc) (hiT : IntsAre vsT Tc.cells) (htc : Tc.t + k * drawsAt d ≤ t0 + 1 + 2 * drawsAt d) (hc0 : vs0.length + k * cntAt d ≤ 2 * cntAt d) (hc1 : vs1.length + k * cntAt d ≤ 2 * cntAt d) (hc2 : vs2.length + k * cntAt d ≤ 2 * cntAt d)
      (dy : Dvs (Iv imm) ys (toDs mark sts)) (d0 : Dvs (Iv imm) vs0 (toDs mark (preL sts))) (d1 : Dvs (Iv imm) vs1 (toDs mark (postL sts))) (d2 : Prs (Iv imm) fz mark vs2 (postL sts)) (ct : AllTup imm) (hfz : ∀ p ∈ fz, L < p.1) :
      BodyI d B0 t0 mark L aT aC a0 a1 a2 aN nN l o1 o2 o3 o4 k ys ((aT, listOf [.ref aC, .int Tc.t tk].toArray n) :: (aC, listOf vsT.toArray nc) :: (a0, listOf (l.v0 ++ vs0).toArray n0) :: (a1, listOf (l.v1 ++ vs1).toArray n1) :: (a2, listOf (l.v2 ++ vs2).toArray n2) :: (aN, listOf [.ref a0, .ref a1, .ref a2].toArray nN) :: (L + 1 + 1 + 1 + 1, o1) :: (L + 1 + 1 + 1, o2) :: (L + 1 + 1, o3) :: (L + 1, o4) :: (fz ++ imm))
theorem body_step {prog : Program} {w : World} (d : Nat) (S : MadeSpec prog w d) (hd3 : d ≤ 3) : BodySpec prog w d := by
  intro A s G R aT aC aN a0 a1 a2 T l mt dt mark B kp TA ok NA hG nd hl0 hl1 hl2 ht hmk hA hd hu hret
  obtain ⟨tk, n, nc, vs, hT, hC, hvs⟩ := TA
  obtain ⟨nN, n0, n1, n2, hN, h0, h1, h2⟩ := NA
  obtain ⟨gT, gC, gN, g0, g1, g2⟩ := all6.mp hG
  have hdp := draws_pos d
  have hcp := cnt_pos d
  obtain ⟨⟨u1, u2, u3, u4, u5⟩, ⟨u6, u7, u8, u9⟩, ⟨u10, u11, u12⟩, ⟨u13, u14⟩, u15⟩ := lists_nd nd
  have hled := (all6 (P := fun p : Addr × Obj => s.heap.get? p.1 = some p.2 ∧ G.get? p.1 = none) (a := (aT, listOf [.ref aC, .int T.t tk].toArray n)) (b := (aC, listOf vs.toArray nc)) (c := (aN, listOf [.ref a0, .ref a1, .ref a2].toArray nN)) (d := (a0, listOf l.v0.toArray n0)) (e := (a1, listOf l.v1.toArray n1)) (f := (a2, listOf l.v2.toArray n2))).mpr ⟨⟨hT, gT⟩, ⟨hC, gC⟩, ⟨hN, gN⟩, ⟨h0, g0⟩, ⟨h1, g1⟩, ⟨h2, g2⟩⟩
  have hrm : A.depth < recursionLimit := Nat.lt_trans (by first | exact Nat.lt_of_le_of_lt (Nat.le_add_right _ _) (Nat.lt_trans hd (by decide)) | exact Nat.lt_of_le_of_lt hd (by decide) | lia) (show 800 < recursionLimit by decide)
  refine' enterC (binds := [(Str.ofString "tape", .ref aT), (Str.ofString "mark", .str mark mt), (Str.ofString "depth", .int d dt), (Str.ofString "notes", .ref aN)]) B kp _ hled ?_ ?_ hrm ?_ ?_ ?_ ?_ ?_ ?_ ?_
  any_goals k_is
  any_goals (exact BindsTo.of_eq rfl)
  any_goals (first | rfl | decide)
  intro g h₁ tk' cells hg1 hg2 F N Y l1 B'
  replace l1 := allLt_of l1
  simp only [AllLt, and_true] at l1
  obtain ⟨o1, o2, o3, o4, hcs, c1, c2, c3, c4⟩ := CellsAre.four Y
  subst hcs
  try simp only [List.cons_append, List.nil_append] at N
  have X := B'.X
  obtain ⟨p, loose, mean, mg, mb, Tp⟩ := B'.T
  clear kp hT hC gT gC gN g0 g1 g2 h0 h1 h2 B hg2 hled hrm Y
  have hrg := dval_range (T := T) (lim := 3) (by decide)
  k_steps
  k_extra "og_peel"
  rename News _ _ _ _ => N0
  have N1 := news_std (aT := aT) (aC := aC) (a0 := a0) (a1 := a1) (a2 := a2) (aN := aN) (b1 := s.heap.objs.size + 1 + 1 + 1 + 1) (b2 := s.heap.objs.size + 1 + 1 + 1) (b3 := s.heap.objs.size + 1 + 1) (b4 := s.heap.objs.size + 1) N0 (by k_mem) (by k_mem) (by k_mem) (by k_mem) (by k_mem) (by k_mem) (by k_mem) (by k_mem) (by k_mem) (by k_mem)
  rw [← List.append_nil l.v0, ← List.append_nil l.v1, ← List.append_nil l.v2] at N1
  refine LCg.CompSrc.range (n := (dval 3 T).toNat) hA (by k_asm) N1 (by assumption) (small_one (by decide) (by decide) (by lia) (by lia)) (by rw [rangeSize_nat]; simp) (by have : sizeLine = 2 ^ 24 := rfl; lia) ?_
  clear N0
  intro g'
  refine rest_ind (Inv := fun k _ ys news => BodyI d (bodyF (madeF d) (dval 3 T).toNat (dnew 3 T) l.v0.length) T.t mark s.heap.objs.size aT aC a0 a1 a2 aN nN l o1 o2 o3 o4 k ys news) ?zero ?succ _ _ _ _ ?start
  case start =>
    refine ⟨dnew 3 T, [], [], [], [], [], [], _, _, _, _, _, _, _, by simp, dnew_ok ok, by assumption, ?_, ?_, ?_, ?_, by rw [toDs.eq_1]; exact .nil, by rw [preL.eq_1, toDs.eq_1]; exact .nil, by rw [postL.eq_1, toDs.eq_1]; exact .nil, by rw [postL.eq_1]; exact .nil, List.forall_mem_nil _, List.forall_mem_nil _⟩
    · have h2 : ((dval 3 T).toNat : Int) * drawsAt d ≤ 2 * drawsAt d := Int.mul_le_mul_of_nonneg_right (by have := nat2 T; lia) hdp
      rw [dnew_t]; lia
    · have := Nat.mul_le_mul_right (cntAt d) (nat2 T); simp only [List.length_nil]; lia
    · have := Nat.mul_le_mul_right (cntAt d) (nat2 T); simp only [List.length_nil]; lia
    · have := Nat.mul_le_mul_right (cntAt d) (nat2 T); simp only [List.length_nil]; lia
  case zero =>
    rintro i ys news ⟨Tc, sts, vs0, vs1, vs2, fz, imm, vsT, tk9, n9, nc9, n09, n19, n29, hb, okc, hiT, htc, hc0, hc1, hc2, dy, d0, d1, d2, ct, hfz⟩
    unfold LCg.FinE
    intro D h tk F N of1
    have hb' : bodyAt (madeF d) T l.v0.length = (sts, Tc) := by unfold bodyAt; rw [hb]; simp only [bodyF, List.append_nil]
    have hsl : sts.length ≤ 2 := by
      have q := bodyF_len (mk := madeF d) (dval 3 T).toNat (dnew 3 T) l.v0.length
      rw [hb] at q; simp only [bodyF, List.append_nil] at q; have := nat2 T; lia
    have hyl := dy.length
    rw [toDs_len] at hyl
    k_steps
    k_extra "og_peel"
    rename News _ _ _ _ => N2
    rename Fr _ _ _ _ => F2
    try simp only [List.toList_toArray, Array.toList_toArray] at N2
    try dsimp only
    rw [hb'] at hret
    dsimp only at hret
    have hl := hl6 (a := aT) (b := aC) (c := aN) (d := a0) (e := a1) (f := a2) N2 (by k_mem) (by k_mem) (by k_mem) (by k_mem) (by k_mem) (by k_mem)
    have nv := new_view hg1 N2 hl (imm := imm) (by intro p hp; simp only [List.mem_cons, List.mem_append, hp, or_true])
    refine hret _ _ _ vs0 vs1 vs2 fz ⟨kp_end hg1 F2 (Nat.le_refl _) hN (N2.get (by k_mem)), ⟨_, _, _, _, N2.get (by k_mem), N2.get (by k_mem), hiT⟩, ⟨_, _, _, _, N2.get (by k_mem), N2.get (by k_mem), N2.get (by k_mem), N2.get (by k_mem)⟩, d0.mono nv, d1.mono nv, d2.mono nv (fun _ q => q), fun p hp => ⟨(N2 p (by simp only [List.mem_cons, List.mem_append, hp, true_or, or_true])).1, Nat.le_of_lt (hfz p hp)⟩⟩ ?_
    exact Dv.tup ⟨N2.get (by k_mem), new_tup hg1 N2 (by k_mem) hl⟩ (dy.mono nv)
  case succ =>
    rintro k i ys news ⟨Tc, sts, vs0, vs1, vs2, fz, imm, vsT, tk9, n9, nc9, n09, n19, n29, hb, okc, hiT, htc, hc0, hc1, hc2, dy, d0, d1, d2, ct, hfz⟩
    intro v I oI C oC D m₂ h9 tk8 E' hP hC9 hx9 F9 N9 off ne
    have e1 : ((k + 1 : Nat) : Int) * drawsAt d = k * drawsAt d + drawsAt d := by rw [Int.natCast_add, Int.add_mul]; simp
    have e2 : (k + 1) * cntAt d = k * cntAt d + cntAt d := Nat.succ_mul _ _
    rw [e1] at htc; rw [e2] at hc0 hc1 hc2
    have e3 : 0 ≤ (k : Int) * drawsAt d := Int.mul_nonneg (by lia) hdp
    have hks := hk5 (a := aT) (b := aC) (c := a0) (d := a1) (e := a2) off (by k_mem) (by k_mem) (by k_mem) (by k_mem) (by k_mem)
    have big : ∀ x : Nat, s.heap.objs.size < x → ∀ a ∈ [aT, aC, a0, a1, a2], x ≠ a := fun x hx => all5 (by lia) (by lia) (by lia) (by lia) (by lia)
    have hr9 := rest_comp (oI := oI) (oC := oC) (oD := LCg.lst ys) off hks (rest5 (Rest.keep (all5 (Ne.symm u2) (Ne.symm u6) u10 u11 u12) (Rest.keep (big _ (by dsimp only; lia)) (Rest.keep (big _ (by dsimp only; lia)) (Rest.keep (big _ (by dsimp only; lia)) (Rest.keep (big _ (by dsimp only; lia)) (Rest.offApp (fun p hp => big _ (hfz p hp)) (Rest.tail ct))))))))
    k_steps
    k_extra "og_peel"
    rename_i h8 tk7 r vs0' vs1' vs2' fz' imm' vsT' tk2' n8 nc8 n08 n18 n28 F8 ct' hi' ok' lo lo2 lz9 dv0 dv1 dv2 N8
    rw [List.length_append] at hi' ok' dv0 dv1 dv2 N8
    have q0 := dv0.length
    have q1 := dv1.length
    have q2 := dv2.length
    rw [toDs_len] at q0 q1
    rw [post_len] at q1 q2
    rw [List.length_cons] at q0
    have cb := (madeF_mk d).cnt Tc (l.v0.length + vs0.length)
    have tb := (madeF_mk d).t Tc (l.v0.length + vs0.length)
    rw [bodyF.eq_2] at hb
    generalize hst : madeF d Tc (l.v0.length + vs0.length) = st at *
    refine LCg.CompEnd.intro F8 N8 ((aT, listOf [.ref aC, .int st.2.t tk2'].toArray n8) :: (aC, listOf vsT'.toArray nc8) :: (a0, listOf (l.v0 ++ (vs0 ++ r :: vs0')).toArray n08) :: (a1, listOf (l.v1 ++ (vs1 ++ vs1')).toArray n18) :: (a2, listOf (l.v2 ++ (vs2 ++ vs2')).toArray n28) :: (aN, listOf [.ref a0, .ref a1, .ref a2].toArray nN) ::
      (s.heap.objs.size + 1 + 1 + 1 + 1, o1) :: (s.heap.objs.size + 1 + 1 + 1, o2) :: (s.heap.objs.size + 1 + 1, o3) :: (s.heap.objs.size + 1, o4) :: ((fz ++ fz') ++ (imm ++ imm'))) ?sub ?off trivial
      ⟨st.2, sts ++ [st.1], vs0 ++ r :: vs0', vs1 ++ vs1', vs2 ++ vs2', fz ++ fz', imm ++ imm', vsT', tk2', n8, nc8, n08, n18, n28, ?e1, ok', hi', ?e2, ?e3, ?e4, ?e5, ?e6, ?e7, ?e8, ?e9, ?e10, ?e11⟩
    case sub => exact sub_std
    case off => exact off_std off lo lo2 rfl rfl rfl rfl rfl
    case e1 => 
      rw [hb, List.append_assoc]
      simp only [List.length_append, List.length_cons, List.singleton_append]
      rw [show l.v0.length + vs0.length + st.1.pre.length = l.v0.length + (vs0.length + (vs0'.length + 1)) by lia]
    case e2 => lia
    case e3 => rw [List.length_append, List.length_cons]; lia
    case e4 => rw [List.length_append]; lia
    case e5 => rw [List.length_append]; lia
    case e6 => rw [toDs_append, toDs_one]; exact (dy.mono iv_l).append (.one ((toDs_pre dv0).mono iv_r))
    case e7 => rw [preL_append, preL_one, toDs_append]; exact (d0.mono iv_l).append (dv0.mono iv_r)
    case e8 => rw [postL_append, postL_one, toDs_append]; exact (d1.mono iv_l).append (dv1.mono iv_r)
    case e9 => rw [postL_append, postL_one]; exact (d2.mono iv_l fun _ q => List.mem_append_left _ q).append (dv2.mono iv_r fun _ q => List.mem_append_right _ q)
    case e10 => exact List.forall_mem_append.mpr ⟨ct, ct'⟩
    case e11 => exact List.forall_mem_append.mpr ⟨hfz, fun p hp => Nat.lt_trans (Nat.lt_succ_self _) (lo p hp (s.heap.objs.size + 1, o4) (by simp))⟩
theorem rulesOgRef : True := by
  w_top off
  k_with_none
  k_with "spliced" => ((with_reducible show wpAny _ _ (spliced (backTo _ (starEach (_ :: _) _))) _ _ _); k_dflt (refine' args_at ?ogF ?ogk ?ogv ?_; (case ogF => k_asm); (case ogk => rfl); (case ogv => rfl)); k_whole)
  k_with "eval Constant int" => refine int_at ?_
  k_with "eval Constant str" => refine str_at ?_
  k_with "eval Call" => (k_dflt (first | (refine' callK_at ?ogF ?ogX ?ogT ?oge ?ogf ?ogk ?ogg ?ogd ?ogv ?_; (case ogX => k_asm); (case ogT => k_asm); (case oge => k_is); (case ogf => k_is); (case ogg => rfl); (case ogd => rfl); (case ogF => k_asm); (case ogk => rfl); (case ogv => rfl); k_whole) | (refine' callB_at ?ogF ?ogX ?ogT ?oge ?ogb ?ogi ?ogn ?ogk ?ogg ?ogd ?ogv ?_; (case ogX => k_asm); (case ogT => k_asm); (case oge => k_is); (case ogb => boot_fast); (case ogi => rfl); (case ogn => decide); (case ogg => rfl); (case ogd => rfl); (case ogF => k_asm); (case ogk => rfl); (case ogv => rfl); k_whole)))
  k_with "eval Subscript" => (k_dflt (refine' sub_at ?ogF ?ogk ?ogv ?ogw ?_; (case ogF => k_asm); (case ogk => rfl); (case ogv => rfl); (case ogw => rfl)); k_whole)
  k_with "ite" => (k_closed; k_dflt (first | refine iteT rfl ?_ | refine iteF rfl ?_))
  k_with "isTrue Compare" => (k_dflt (refine' cmp_at ?ogF ?ogk ?ogv ?ogw ?ogb ?_; (case ogF => k_asm); (case ogk => rfl); (case ogv => rfl); (case ogw => rfl); (case ogb => rfl)); k_whole)
  k_with "execs cons" => ((with_reducible refine wpAny_execs_cons ?_); (try dsimp only); (try clear qk ek); (try k_fold))
  k_with "og_mem" => first | with_reducible assumption | (refine memI ?_; with_reducible assumption) | (refine List.mem_append_right _ ?_; k_mem) | (refine List.mem_append_left _ ?_; k_mem)
  k_with "og_neo" => first | exact neLt (by assumption) (by k_mem) | exact neGt (by assumption) (by k_mem) | (refine neN ?_; (try dsimp only); lia)
  k_with "og_ne" => first | assumption | exact Ne.symm (by assumption) | (k_extra "og_neo")
  k_with "og_all" => first | assumption | exact neAll (by assumption) (fun _ h => h) | exact neAll (by assumption) (by intro p hp; k_mem) | exact off1 (by assumption) (by assumption) | exact LCg_lt (by assumption) | exact offL (by assumption) (by k_mem) | exact off_tup (by assumption) (by assumption) (by intro p hp; k_mem) (by k_mem) | (refine List.forall_mem_append.mpr ⟨?_, ?_⟩ <;> k_all) | exact off1 (by assumption) (by lia)
  k_with "og_d" => first | exact dlt hd rfl rfl | exact dlt0 hd rfl rfl | exact dle hd rfl rfl | exact dle0 hd rfl rfl | exact dlq hd rfl rfl | exact dlq0 hd rfl rfl | exact dmk hd rfl | exact drk hd rfl | exact drk0 hd rfl | (simp only [depth_deeper, depth_in1]; lia)
  k_with "og_u" => first | exact dlt hu rfl rfl | exact dlt0 hu rfl rfl | exact dle hu rfl rfl | exact dle0 hu rfl rfl | exact dlq hu rfl rfl | exact dlq0 hu rfl rfl | exact umk hu rfl | exact urk hu rfl | exact urk0 hu rfl | (simp only [units_deeper, units_in1]; lia)
  k_with "og_lt" => first | with_reducible assumption | lia
  k_with "og_n" => first | assumption | exact Ne.symm (by assumption) | (k_extra "og_neo")
  k_with "og_peel" => ((try dsimp +zetaDelta only [List.nil_append, List.cons_append] at *); (repeat (first | clear ledk | clear mk | clear qk | clear ek)))
  k_with "og_rest" => (repeat' (first | exact Rest.nil | (refine' Rest.skip ?ogr1 ?_; (case ogr1 => k_mem)) | (refine' Rest.keep ?ogr1 ?_; (case ogr1 => first | exact al5 (by k_extra "og_n") (by k_extra "og_n") (by k_extra "og_n") (by k_extra "og_n") (by k_extra "og_n") | exact al3 (by k_extra "og_n") (by k_extra "og_n") (by k_extra "og_n") | (repeat' (first | exact List.forall_mem_nil _ | (refine List.forall_mem_cons.mpr ⟨?_, ?_⟩) | assumption | exact Ne.symm (by assumption) | (k_extra "og_neo"))))) | (refine' Rest.app ?ogr1 ?_; (case ogr1 => assumption)) | (refine' Rest.tail ?ogr1; (case ogr1 => assumption)) | (refine' Rest.offApp ?ogr1 ?_; (case ogr1 => first | assumption | exact off5 (by assumption) (by k_extra "og_lt") (by k_extra "og_lt") (by k_extra "og_lt") (by k_extra "og_lt") (by k_extra "og_lt") | exact off2 (by assumption) (by k_extra "og_lt") (by k_extra "og_lt") (by k_extra "og_lt"))) | (refine' Rest.off ?ogr1; (case ogr1 => first | assumption | exact off5 (by assumption) (by k_extra "og_lt") (by k_extra "og_lt") (by k_extra "og_lt") (by k_extra "og_lt") (by k_extra "og_lt") | exact off2 (by assumption) (by k_extra "og_lt") (by k_extra "og_lt") (by k_extra "og_lt")))))
  k_with "og_klt" => skip
  k_with "newTuple" => (k_dflt (refine' newtup_le ?ogF ?ogN ?_ ?ogz; (case ogF => k_asm); (case ogN => k_asm); (case ogz => kmk_size)); intro _ _ ledk _ _ l1; (try skip); (try k_sweep); (try (revert l1; intros)))
  k_with "eval Tuple" => (k_dflt (refine' tup_le ?ogF ?ogN ?ogk ?ogv ?ogz ?_; (case ogN => k_asm); (case ogF => k_asm); (case ogk => rfl); (case ogv => rfl); (case ogz => kmk_size)); k_whole; intro _ _ ledk _ _ l1; (try skip); (try k_sweep); (try (revert l1; intros)))
  k_with "storeName" => (k_dflt (refine' store_le ?ogF ?ogN ?_ ?oga ?ogb; (case ogF => k_asm); (case ogN => k_asm); (case oga => rfl); (case ogb => rfl)); k_whole; intro _ mk _ _; (try k_sweep))
  k_with "call builtin:list.append" => ((with_reducible show wpAny _ _ (call (Value.builtin _) [Value.ref _, _]) _ _ _); k_dflt (refine' append_le ?ogF ?ogN ?ogU ?_ ?ogz; (case ogF => k_asm); (case ogN => k_asm); (case ogU => k_upd); (case ogz => ((try simp only [List.length_append, List.length_cons, List.length_nil]); lia))); k_whole; intro _ ledk _ _; (try k_sweep))
  k_with "call builtin:len" => (k_dflt (refine' len_i ?ogk1 ?ogk2 ?ogk3 ?ogk4 ?_; (case ogk1 => k_asm); (case ogk2 => k_mem); (case ogk3 => with_reducible assumption); (case ogk4 => lia); k_whole); intro _ _; (try dsimp only))
  k_with "setItem ref int" => (k_dflt (refine' set_l ?ogk1 ?ogk2 ?ogk3 ?ogk4 ?ogk5 ?ogk6 ?ogk7 ?_; (case ogk1 => k_asm); (case ogk2 => k_asm); (case ogk3 => k_upd); (case ogk4 => rfl); (case ogk5 => decide); (case ogk6 => decide); (case ogk7 => (simp only [List.length_cons, List.length_nil]; decide)); k_whole); intro _ _ _; (try dsimp only [List.set]); (try k_sweep))
  k_with "call ref" => (k_dflt (refine' call_draw ?ogb1 ?ogb2 ?ogb3 ?ogb4 ?ogb5 ?ogb6 ?ogb7 ?ogb8 ?ogb9 ?ogc1 ?ogc2 ?ogc3 ?ogc4 ?ogc5 ?_; (case ogb1 => assumption); (case ogb2 => k_asm); (case ogb3 => k_asm); (case ogb4 => k_mem); (case ogb5 => k_mem); (case ogb6 => with_reducible assumption); (case ogb7 => assumption); (case ogb8 => repeat' (first | exact Rest.nil | (refine' Rest.skip ?ogr1 ?_; (case ogr1 => k_mem)) | (refine' Rest.keep ?ogr1 ?_; (case ogr1 => (repeat' (first | exact List.forall_mem_nil _ | (refine List.forall_mem_cons.mpr ⟨?_, ?_⟩) | assumption | exact Ne.symm (by assumption) | (k_extra "og_neo"))))) | (refine' Rest.app ?ogr1 ?_; (case ogr1 => assumption)) | (refine' Rest.tail ?ogr1; (case ogr1 => assumption)) | (refine' Rest.offApp ?ogr1 ?_; (case ogr1 => assumption)) | (refine' Rest.off ?ogr1; (case ogr1 => assumption)))); (case ogb9 => k_asm); (case ogc1 => (k_extra "og_d")); (case ogc2 => (k_extra "og_u")); (case ogc3 => lia); (case ogc4 => ((try simp only [dnew_t]); lia)); (case ogc5 => first | exact .inl rfl | exact .inr rfl); k_whole); intro _ _ _ _ _ _ _ _ _ _ _ _ _; (try dsimp only); (try k_sweep))
  k_with "subscriptTail" => ((with_reducible show wpAny _ _ (subscriptTail _ _ (Value.ref _) (Value.int (-1) _)) _ _ _); k_dflt (refine' last_l ?ogk1 ?ogk2 ?ogk3 ?_ ?ogk4; (case ogk1 => k_asm); (case ogk2 => k_mem); (case ogk3 => lia); (case ogk4 => with_unfolding_all rfl); k_whole))
  k_with "call ref" => (k_dflt (refine' call_ref ?ogb0 ?ogb1 ?ogb2 ?ogb3 ?ogb4 ?ogb5 ?ogbR ?ogb6 ?ogb7 ?ogb8 ?ogbl ?ogb9 ?ogc1 ?ogc2 ?ogc3 ?ogd1 ?ogd2 ?ogc4 ?ogc5 ?ogc6 ?ogc7 ?_; (case ogb0 => assumption); (case ogb1 => assumption); (case ogb2 => k_asm); (case ogb3 => k_asm); (case ogc7 => first | exact .inl ⟨by lia, rfl⟩ | exact .inr ⟨rfl, rfl⟩); (case ogb4 => k_mem); (case ogb5 => k_mem); (case ogbR => k_mem); (case ogb6 => with_reducible assumption); (case ogb7 => assumption); (case ogb8 => (k_extra "og_rest")); (case ogbl => first | lia | (simp only [List.length_nil]; lia)); (case ogb9 => k_asm); (case ogc1 => (k_extra "og_d")); (case ogc2 => (k_extra "og_u")); (case ogc3 => (k_extra "og_neo")); (case ogd1 => (k_extra "og_neo")); (case ogd2 => (k_extra "og_neo")); (case ogc4 => ((try simp only [dnew_t]); lia)); (case ogc5 => assumption); (case ogc6 => lia); k_whole); intro h' tk' tk2 n' n2' vs' imm r nvs nR' F' ct lo N' hi ok' dv hnl; (try dsimp only); (try simp only [List.cons_append, List.nil_append, List.append_assoc] at N'); (try k_sweep); (try (revert h' tk' tk2 n' n2' vs' imm r nvs nR' F' ct lo N' hi ok' dv hnl; intros)))
  k_with "call builtin:list.extend" => (k_dflt (refine' ext_l ?ogF ?ogN ?ogb ?ogU ?ogz ?_; (case ogF => k_asm); (case ogN => k_asm); (case ogb => k_mem); (case ogU => k_upd); (case ogz => (first | exact Nat.le_of_ble_eq_true rfl | ((try simp only [List.length_append, List.length_cons, List.length_nil]); lia))); k_whole); intro h' F' N'; (try dsimp only); (try k_sweep); (try (revert h' F' N'; intros)))
  trivial
-- the call of _law_draw
-- the call of _law_ref
theorem ref_walk {prog : Program} {w : World} (f : Nat) (S : ∀ f', f = f' + 1 → RefSpec prog w f') (hf3 : f ≤ 3) {A : Around} {s : Shared} {R : Result → Shared → Prop} {g h : Heap} {aT aC aR : Nat} {T : Tape} {rvs vs : List Value} {n n2 nR tk mt dt tkk : Nat} {mark : Str} {oT oC oR : Obj} {deep : Int} (hdeep : deep = 3 - f)
    (B' : Base w g) (F : Fr g s.heap.objs.size h (fun y => [(Str.ofString "tape", Value.ref aT), (Str.ofString "mark", .str mark mt), (Str.ofString "refs", .ref aR), (Str.ofString "deep", .int deep dt)].reverse.lookup y))
    (N : News g s.heap.objs.size h [(aT, listOf [.ref aC, .int T.t tk].toArray n), (aC, listOf vs.toArray n2), (aR, listOf rvs.toArray nR)]) (hg1 : ∀ b o, s.heap.get? b = some o → b ∉ ([(aT, oT), (aC, oC), (aR, oR)] : List (Addr × Obj)).map (·.1) → g.get? b = some o) (hvs : IntsAre vs T.cells) (ok : TapeOk T)
    (hrl : rvs.length ≤ 1000) (hA : A.handled = none) (hd : A.depth + f < 880) (hu : A.units + 3 * f < 4900) (hTC : aT ≠ aC) (hTR : aT ≠ aR) (hCR : aC ≠ aR) (ht2 : T.t + 10 * f < 90000) (hmk : mark.length = 1)
    (hret : ∀ h' tk' r nvs nR', Kp [aT, aC, aR] s.heap h' → TapeAt h' aT aC (refF f T).2 → h'.get? aR = some (listOf (rvs ++ r :: nvs).toArray nR') → Dvs (Nv s.heap h') (r :: nvs) ((refF f T).1.flat.map (Rf.toD mark)) → R (.ok (.ret r)) { s with heap := h', toks := tk' }) :
    CodeFrom 85 prog w 0 A s.heap.objs.size (endOf R) (fun _ _ => False) ⟨h, s.gens, s.drawn, tkk, s.os⟩ := by
  subst hdeep
  have X := B'.X
  obtain ⟨p, loose, mean, mg, mb, Tp⟩ := B'.T
  refine' CodeFrom.intro ?ho ?_
  case ho => k_is
  intro _
  simp only [List.drop_zero]
  rcases f with _ | f'
  all_goals (try (have S' : RefSpec prog w f' := S _ rfl))
  all_goals (clear S; k_steps)
  all_goals (try dsimp only)
  all_goals (
    k_extra "og_peel"
    rename News _ _ _ _ => N9
    rename Fr _ _ _ _ => F9
    try simp only [List.append_assoc, List.cons_append, List.nil_append] at N9
    first
      | rw [refF_zero] at hret
      | rw [refF_pos (by assumption)] at hret
      | rw [refF_neg (by assumption)] at hret
    dsimp only at hret
    refine hret _ _ _ _ _ ⟨fun b o e nb => F9.keep _ _ (hg1 b o e nb), Nat.le_of_lt (Heap.Ns.lt F9.ns)⟩ ⟨_, _, _, _, N9.get (by k_mem), N9.get (by k_mem), by assumption⟩ (N9.get (by k_mem)) ?_
    simp only [Rf.flat, List.map_cons, List.map_nil, Rf.toD, sS, numD]
    have hl9 := hl3 (a := aT) (b := aC) (c := aR) N9 (by k_mem) (by k_mem) (by k_mem)
    try (rename Dvs _ _ _ => dv9; have dv8 := dv9.mono (new_view hg1 N9 hl9 (by intro p hp; k_mem)); have hd8 := dv_head dv8)
    repeat' (first
      | exact Dvs.nil | exact Dv.none | exact Dv.str _ _ | exact Dv.int _ _ | assumption
      | refine Dvs.cons ?_ ?_
      | refine Dv.tup ⟨N9.get (by k_mem), new_tup hg1 N9 (by k_mem) hl9⟩ ?_))
theorem ref_step {prog : Program} {w : World} (f : Nat) (S : ∀ f', f = f' + 1 → RefSpec prog w f') (hf3 : f ≤ 3) : RefSpec prog w f := by
  intro A s G R aT aC aR T rvs nR mt dt mark args B kp TA ok gT gC gR hR hrl hA hd hu hTC hTR hCR ht2 hmk hargs hret
  obtain ⟨tk, n, n2, vs, hT, hC, hvs⟩ := TA
  refine' withCode (w := w) (f := 85) ?ho0 ?_
  case ho0 => k_is
  intro ho
  have hled : ∀ p ∈ [(aT, listOf [.ref aC, .int T.t tk].toArray n), (aC, listOf vs.toArray n2), (aR, listOf rvs.toArray nR)], s.heap.get? p.1 = some p.2 ∧ G.get? p.1 = none :=
    List.forall_mem_cons.mpr ⟨⟨hT, gT⟩, List.forall_mem_cons.mpr ⟨⟨hC, gC⟩, List.forall_mem_cons.mpr ⟨⟨hR, gR⟩, List.forall_mem_nil _⟩⟩⟩
  have hrm : A.depth < recursionLimit := Nat.lt_of_le_of_lt (Nat.le_add_right _ _) (Nat.lt_trans hd (by decide))
  rcases hargs with hargs | ⟨hf, hargs⟩
  case' inl => subst hargs; refine' enter (binds := [(Str.ofString "tape", .ref aT), (Str.ofString "mark", .str mark mt), (Str.ofString "refs", .ref aR), (Str.ofString "deep", .int (3 - f) dt)]) B kp [(aT, listOf [.ref aC, .int T.t tk].toArray n), (aC, listOf vs.toArray n2), (aR, listOf rvs.toArray nR)] hled ?_ ?_ hrm ?_ ?_ ?_ ?_ ?_ ?_ ?_
  case' inr => subst hargs; refine' enter (binds := [(Str.ofString "tape", .ref aT), (Str.ofString "mark", .str mark mt), (Str.ofString "refs", .ref aR), (Str.ofString "deep", .int 0 286)]) B kp [(aT, listOf [.ref aC, .int T.t tk].toArray n), (aC, listOf vs.toArray n2), (aR, listOf rvs.toArray nR)] hled ?_ ?_ hrm ?_ ?_ ?_ ?_ ?_ ?_ ?_
  any_goals k_is
  any_goals (exact binds_K (B.X.keeps kp) rfl (by k_is) rfl rfl rfl)
  any_goals (first | rfl | exact locs rfl | decide)
  · intro g h₁ hg1 hg2 F N B'
    exact CodeFrom.out (ref_walk f S hf3 (by rw [hf]; rfl) B' F N hg1 hvs ok hrl hA hd hu hTC hTR hCR ht2 hmk hret) ho
  · intro g h₁ hg1 hg2 F N B'
    exact CodeFrom.out (ref_walk f S hf3 rfl B' F N hg1 hvs ok hrl hA hd hu hTC hTR hCR ht2 hmk hret) ho
theorem ref_all {prog : Program} {w : World} : ∀ f, f ≤ 3 → RefSpec prog w f
  | 0, h => ref_step 0 (fun _ e => nomatch e) h
  | f + 1, h => ref_step (f + 1) (fun f' e => by cases e; exact ref_all f (by lia)) h
theorem rulesOgMadeT : True := by
  w_top off
  k_with_none
  k_with "spliced" => ((with_reducible show wpAny _ _ (spliced (backTo _ (starEach (_ :: _) _))) _ _ _); k_dflt (refine' args_at ?ogF ?ogk ?ogv ?_; (case ogF => k_asm); (case ogk => rfl); (case ogv => rfl)); k_whole)
  k_with "eval Constant int" => refine int_at ?_
  k_with "eval Constant str" => refine str_at ?_
  k_with "eval Call" => (k_dflt (first | (refine' callK_at ?ogF ?ogX ?ogT ?oge ?ogf ?ogk ?ogg ?ogd ?ogv ?_; (case ogX => k_asm); (case ogT => k_asm); (case oge => k_is); (case ogf => k_is); (case ogg => rfl); (case ogd => rfl); (case ogF => k_asm); (case ogk => rfl); (case ogv => rfl); k_whole) | (refine' callB_at ?ogF ?ogX ?ogT ?oge ?ogb ?ogi ?ogn ?ogk ?ogg ?ogd ?ogv ?_; (case ogX => k_asm); (case ogT => k_asm); (case oge => k_is); (case ogb => boot_fast); (case ogi => rfl); (case ogn => decide); (case ogg => rfl); (case ogd => rfl); (case ogF => k_asm); (case ogk => rfl); (case ogv => rfl); k_whole)))
  k_with "eval Subscript" => (k_dflt (refine' sub_at ?ogF ?ogk ?ogv ?ogw ?_; (case ogF => k_asm); (case ogk => rfl); (case ogv => rfl); (case ogw => rfl)); k_whole)
  k_with "ite" => (k_closed; k_dflt (first | refine iteT rfl ?_ | refine iteF rfl ?_))
  k_with "isTrue Compare" => (k_dflt (refine' cmp_at ?ogF ?ogk ?ogv ?ogw ?ogb ?_; (case ogF => k_asm); (case ogk => rfl); (case ogv => rfl); (case ogw => rfl); (case ogb => rfl)); k_whole)
  k_with "og_mem" => first | with_reducible assumption | (refine memI ?_; with_reducible assumption) | (refine List.mem_append_right _ ?_; k_mem) | (refine List.mem_append_left _ ?_; k_mem)
  k_with "og_neo" => first | exact neLt (by assumption) (by k_mem) | exact neGt (by assumption) (by k_mem) | (refine neN ?_; (try dsimp only); lia)
  k_with "og_ne" => first | assumption | exact Ne.symm (by assumption) | (k_extra "og_neo")
  k_with "og_all" => first | assumption | exact neAll (by assumption) (fun _ h => h) | exact neAll (by assumption) (by intro p hp; k_mem) | exact off1 (by assumption) (by assumption) | exact LCg_lt (by assumption) | exact offL (by assumption) (by k_mem) | exact off_tup (by assumption) (by assumption) (by intro p hp; k_mem) (by k_mem) | (refine List.forall_mem_append.mpr ⟨?_, ?_⟩ <;> k_all) | exact off1 (by assumption) (by lia)
  k_with "og_peel" => ((try dsimp +zetaDelta only [List.nil_append, List.cons_append] at *); (repeat (first | clear ledk | clear mk | clear qk | clear ek)))
  k_with "og_klt" => skip
  k_with "newTuple" => (k_dflt (refine' newtup_le ?ogF ?ogN ?_ ?ogz; (case ogF => k_asm); (case ogN => k_asm); (case ogz => kmk_size)); intro _ _ ledk _ _ l1; (try skip); (try k_sweep); (try (revert l1; intros)))
  k_with "eval Tuple" => (k_dflt (refine' tup_le ?ogF ?ogN ?ogk ?ogv ?ogz ?_; (case ogN => k_asm); (case ogF => k_asm); (case ogk => rfl); (case ogv => rfl); (case ogz => kmk_size)); k_whole; intro _ _ ledk _ _ l1; (try skip); (try k_sweep); (try (revert l1; intros)))
  k_with "storeName" => (k_dflt (refine' store_le ?ogF ?ogN ?_ ?oga ?ogb; (case ogF => k_asm); (case ogN => k_asm); (case oga => rfl); (case ogb => rfl)); k_whole; intro _ mk _ _; (try k_sweep))
  k_with "call builtin:list.append" => ((with_reducible show wpAny _ _ (call (Value.builtin _) [Value.ref _, _]) _ _ _); k_dflt (refine' append_le ?ogF ?ogN ?ogU ?_ ?ogz; (case ogF => k_asm); (case ogN => k_asm); (case ogU => k_upd); (case ogz => ((try simp only [List.length_append, List.length_cons, List.length_nil]); lia))); k_whole; intro _ ledk _ _; (try k_sweep))
  k_with "call builtin:len" => (k_dflt (refine' len_i ?ogk1 ?ogk2 ?ogk3 ?ogk4 ?_; (case ogk1 => k_asm); (case ogk2 => k_mem); (case ogk3 => with_reducible assumption); (case ogk4 => lia); k_whole); intro _ _; (try dsimp only))
  k_with "setItem ref int" => (k_dflt (refine' set_l ?ogk1 ?ogk2 ?ogk3 ?ogk4 ?ogk5 ?ogk6 ?ogk7 ?_; (case ogk1 => k_asm); (case ogk2 => k_asm); (case ogk3 => k_upd); (case ogk4 => rfl); (case ogk5 => decide); (case ogk6 => decide); (case ogk7 => (simp only [List.length_cons, List.length_nil]; decide)); k_whole); intro _ _ _; (try dsimp only [List.set]); (try k_sweep))
  k_with "call builtin:len" => (k_dflt (refine' len_l ?ogk1 ?ogk2 ?ogk4 ?_; (case ogk1 => k_asm); (case ogk2 => k_mem); (case ogk4 => (simp only [List.size_toArray, List.length_append, List.length_cons, List.length_nil]; (have hsl9 : sizeLine = 2 ^ 24 := rfl); lia)); k_whole); intro _ _; (try simp only [List.size_toArray]); (try dsimp only))
  k_with "setItem ref int" => (k_dflt (refine' set_mid ?ogk1 ?ogk2 ?ogk3 ?ogk4 ?ogk5 ?_; (case ogk1 => k_asm); (case ogk2 => k_asm); (case ogk3 => k_upd); (case ogk4 => first | rfl | lia); (case ogk5 => lia); k_whole); intro h' F' N'; (try dsimp only); (try k_sweep); (try (revert h' F' N'; intros)))
  k_with "call builtin:list.append" => (k_dflt (refine' append_l ?ogk1 ?ogk2 ?ogk3 ?ogz ?_; (case ogk1 => k_asm); (case ogk2 => k_asm); (case ogk3 => k_upd); (case ogz => (first | exact Nat.le_of_ble_eq_true rfl | ((try simp only [List.length_append, List.length_cons, List.length_nil]); lia))); k_whole); intro h' F' N'; (try simp only [List.cons_append, List.nil_append, List.append_assoc] at N'); (try dsimp only); (try k_sweep); (try (revert h' F' N'; intros)))
  trivial
-- the call of _law_draw
-- the call of _law_ref
-- the calls of _law_made, _law_body
noncomputable def Stop (p : Prop) : Prop := p
theorem Stop.mk {p : Prop} (h : Stop p) : p := h
theorem fr4 {g h : Heap} {L : Nat} {m : Str → Option Value} (F : Fr g L h m) {a b c d : Str} {x y z u : Value} (ha : m a = some x) (hb : m b = some y) (hc : m c = some z) (hd : m d = some u) : Fr g L h (fun q => if q = a then some x else if q = b then some y else if q = c then some z else if q = d then some u else m q) := by
  have e : (fun q => if q = a then some x else if q = b then some y else if q = c then some z else if q = d then some u else m q) = m := by
    funext q
    by_cases h1 : q = a
    · rw [if_pos h1, h1, ha]
    · rw [if_neg h1]
      by_cases h2 : q = b
      · rw [if_pos h2, h2, hb]
      · rw [if_neg h2]
        by_cases h3 : q = c
        · rw [if_pos h3, h3, hc]
        · rw [if_neg h3]
          by_cases h4 : q = d
          · rw [if_pos h4, h4, hd]
          · rw [if_neg h4]
  rw [e]; exact F
theorem addT_l {prog : Program} {w : World} {A : Around} {E : Value → Shared → Prop} {h : Heap} {gn : Array GenState} {dr : Drawn} {tk : Nat} {os : OsState} {g : Heap} {L a b na nb : Nat} {m : Str → Option Value} {led : List (Addr × Obj)} {vs ws : List Value} {Q : Value → Shared → Prop} (F : Fr g L h m) (N : News g L h led) (ha : (a, tupOf vs na) ∈ led) (hb : (b, tupOf ws nb) ∈ led) (hv : vs ≠ []) (hw : ws ≠ []) (hz : vs.length + ws.length ≤ 1000)
    (r : ∀ D' h', let led' := (D', tupOf (vs ++ ws) 0) :: led; Fr g L h' m → News g L h' led' → (∀ p ∈ led, p.1 < D') → Q (.ref D') ⟨h', gn, dr, tk, os⟩) : wpAny (model prog w) A (binaryOp .Add (.ref a) (.ref b)) Q E ⟨h, gn, dr, tk, os⟩ :=
  add_tuples (s := ⟨h, gn, dr, tk, os⟩) F N ⟨_, N.get ha, rfl, _, rfl⟩ ⟨_, N.get hb, rfl, _, rfl⟩ (fun q => absurd q hv) (fun _ q => absurd q hw) (fun _ _ h' F' N' => r _ h' F' N' fun p hp => Heap.lt_size (N p hp).1) (by have : sizeLine = 2 ^ 24 := rfl; lia)
section
variable {prog : Program} {w : World} {A : Around} {E : Value → Shared → Prop} {s : Shared} {g : Heap} {L aT aC aR : Nat} {m : Str → Option Value} {led rest : List (Addr × Obj)} {vs rvs : List Value} {n n2 nR tk mt : Nat} {T : Tape} {mark : Str}
variable {h : Heap} {gn : Array GenState} {dr : Drawn} {tk0 : Nat} {os : OsState} {out : List (Addr × Obj) → List (Addr × Obj)}
theorem call_ref3_le {Q : Value → Shared → Prop} (S : RefSpec prog w 3) (B : Base w g) (F : Fr g L h m) (N : News g L h led) (hT : (aT, listOf [.ref aC, .int T.t tk].toArray n) ∈ led) (hC : (aC, listOf vs.toArray n2) ∈ led) (hR : (aR, listOf rvs.toArray nR) ∈ led) (hvs : IntsAre vs T.cells) (ok : TapeOk T)
    (hr : Rest [aT, aC, aR] led rest) (hrl : rvs.length ≤ 1000) (hA : A.handled = none) (hd : A.depth + 3 < 880) (hu : A.units + 9 < 4900) (hTC : aT ≠ aC) (hTR : aT ≠ aR) (hCR : aC ≠ aR) (ht2 : T.t + 30 < 90000) (hmk : mark.length = 1)
(ho : ∀ t, rest ++ t = out t)
    (r : ∀ h' tk' tk2 n' n2' vs' imm r nvs nR', let led' := (aT, listOf [.ref aC, .int (refF 3 T).2.t tk2].toArray n') :: (aC, listOf vs'.toArray n2') :: (aR, listOf (rvs ++ r :: nvs).toArray nR') :: out imm; (F' : Fr g L h' m) → (ct : AllTup imm) → (N' : News g L h' led') → (hi : IntsAre vs' (refF 3 T).2.cells) → (ok' : TapeOk (refF 3 T).2) → (dv : Dvs (Iv imm) (r :: nvs) ((refF 3 T).1.flat.map (Rf.toD mark))) → (hnl : nvs.length ≤ 3) → (htt : (refF 3 T).2.t ≤ T.t + 8) → Q r ⟨h', gn, dr, tk', os⟩) :
    wpAny (model prog w) A (call (.ref 85) [.ref aT, .str mark mt, .ref aR]) Q E ⟨h, gn, dr, tk0, os⟩ :=
  call_ref3 (s := ⟨h, gn, dr, tk0, os⟩) S B F N hT hC hR hvs ok hr hrl hA hd hu hTC hTR hCR ht2 hmk fun h' tk' tk2 n' n2' vs' imm v nvs nR' F' ct _ N' hi ok' dv hn ht => r h' tk' tk2 n' n2' vs' imm v nvs nR' F' ct (by rw [← ho imm]; exact N') hi ok' dv hn ht
end
section
variable {prog : Program} {w : World} {A : Around} {E : Value → Shared → Prop} {s : Shared} {g : Heap} {L aT aC aN a0 a1 a2 : Nat} {m : Str → Option Value} {led rest : List (Addr × Obj)} {vs v0 v1 v2 : List Value} {nT nC nN n0 n1 n2 tk mt dt d : Nat} {T : Tape} {mark : Str}
variable {h : Heap} {gn : Array GenState} {dr : Drawn} {tk0 : Nat} {os : OsState} {out : List (Addr × Obj) → List (Addr × Obj)}
theorem call_body_le {Q : Value → Shared → Prop} {dp : Int} (S : BodySpec prog w d) (B : Base w g) (F : Fr g L h m) (N : News g L h led) (hT : (aT, listOf [.ref aC, .int T.t tk].toArray nT) ∈ led) (hC : (aC, listOf vs.toArray nC) ∈ led) (hN : (aN, listOf [.ref a0, .ref a1, .ref a2].toArray nN) ∈ led)
    (h0 : (a0, listOf v0.toArray n0) ∈ led) (h1 : (a1, listOf v1.toArray n1) ∈ led) (h2 : (a2, listOf v2.toArray n2) ∈ led) (hvs : IntsAre vs T.cells) (ok : TapeOk T) (nd : [aT, aC, aN, a0, a1, a2].Nodup)
    (hr : Rest [aT, aC, a0, a1, a2] led rest) (hl0 : v0.length + 2 * cntAt d ≤ 5000) (hl1 : v1.length + 2 * cntAt d ≤ 5000) (hl2 : v2.length + 2 * cntAt d ≤ 5000) (ht : T.t + 1 + 2 * drawsAt d < 80000) (hmk : mark.length = 1)
    (hA : A.handled = none) (hd : A.depth + 5 * d + 1 < 800) (hu : A.units + 20 * d + 3 < 4500) (hdp : dp = d)
(ho : ∀ t, rest ++ t = out t)
    (k : ∀ h' tk' r vs0 vs1 vs2 fz imm vs' tk2 n n' n0' n1' n2', let led' := (aT, listOf [.ref aC, .int (bodyAt (madeF d) T v0.length).2.t tk2].toArray n) :: (aC, listOf vs'.toArray n') :: (a0, listOf (v0 ++ vs0).toArray n0') :: (a1, listOf (v1 ++ vs1).toArray n1') :: (a2, listOf (v2 ++ vs2).toArray n2') :: out (fz ++ imm); (F' : Fr g L h' m) → (ct : AllTup imm) → (hi : IntsAre vs' (bodyAt (madeF d) T v0.length).2.cells) → (ok' : TapeOk (bodyAt (madeF d) T v0.length).2) → (N' : News g L h' led') → (lz : (∀ p ∈ fz, L < p.1)) → (dv0 : Dvs (Iv imm) vs0 (toDs mark (preL (bodyAt (madeF d) T v0.length).1))) → (dv1 : Dvs (Iv imm) vs1 (toDs mark (postL (bodyAt (madeF d) T v0.length).1))) → (dv2 : Prs (Iv imm) fz mark vs2 (postL (bodyAt (madeF d) T v0.length).1)) → (dvr : Dv (Iv imm) r (.tup (toDs mark (bodyAt (madeF d) T v0.length).1))) → (htt : (bodyAt (madeF d) T v0.length).2.t ≤ T.t + 1 + 2 * drawsAt d) → (hl0 : vs0.length ≤ 2 * cntAt d) → (hl1 : vs1.length ≤ 2 * cntAt d) → (hl2 : vs2.length ≤ 2 * cntAt d) → Q r ⟨h', gn, dr, tk', os⟩) :
    wpAny (model prog w) A (call (.ref 90) [.ref aT, .str mark mt, .int dp dt, .ref aN]) Q E ⟨h, gn, dr, tk0, os⟩ :=
  call_body (s := ⟨h, gn, dr, tk0, os⟩) S B F N hT hC hN h0 h1 h2 hvs ok nd hr hl0 hl1 hl2 ht hmk hA hd hu hdp fun h' tk' r vs0 vs1 vs2 fz imm vs' tk2 n n' n0' n1' n2' F' ct hi ok' N' _ _ lz d0 d1 d2 dv ht q0 q1 q2 => k h' tk' r vs0 vs1 vs2 fz imm vs' tk2 n n' n0' n1' n2' F' ct hi ok' (by rw [← ho (fz ++ imm)]; exact N') lz d0 d1 d2 dv ht q0 q1 q2
end
theorem without3 (led : List (Addr × Obj)) (a0 a1 a2 : Nat) : ∃ imm : List (Addr × Obj), (∀ p ∈ imm, p ∈ led ∧ (@Ne Nat p.1 a0) ∧ (@Ne Nat p.1 a1) ∧ (@Ne Nat p.1 a2)) ∧ (∀ p ∈ led, (@Ne Nat p.1 a0) → (@Ne Nat p.1 a1) → (@Ne Nat p.1 a2) → p ∈ imm) := by
  refine ⟨led.filter fun p => decide ((@Ne Nat p.1 a0) ∧ (@Ne Nat p.1 a1) ∧ (@Ne Nat p.1 a2)), fun p hp => ?_, fun p hp x y z => ?_⟩
  · have q := List.mem_filter.mp hp
    exact ⟨q.1, of_decide_eq_true q.2⟩
  · exact List.mem_filter.mpr ⟨hp, decide_eq_true ⟨x, y, z⟩⟩
theorem tup_apart {g h : Heap} {L : Nat} {led : List (Addr × Obj)} (N : News g L h led) {a b n k : Nat} {vs : List Value} {ws : Array Value} (ha : (a, tupOf vs n) ∈ led) (hb : (b, listOf ws k) ∈ led) : (@Ne Nat a b) := fun q => by
  subst q
  have x := (N _ ha).1
  have y := (N _ hb).1
  rw [x] at y
  have e : Value.type "tuple" = Value.type "list" := congrArg Obj.cls (Option.some.inj y)
  exact list_ne e.symm
theorem made_tail {prog : Program} {w : World} {A : Around} {s : Shared} {R : Result → Shared → Prop} {g h : Heap} {aT aC aN a0 a1 a2 L D' l' n nc nN n0 n1 n2 nR ts tkk tk : Nat} {T' : Tape} {v0 v1 v2 vs0 vs1 vs2 rs vs w0 x1 x2 : List Value} {st : St} {l k : List St} {mark : Str} {oT oC oN o0 o1 o2 : Obj} {m : Str → Option Value} {led fz : List (Addr × Obj)}
    (B : Base w g) (F : Fr g L h m) (N : News g L h led) (w1 : m (Str.ofString "notes") = some (.ref aN)) (w2 : m (Str.ofString "spot") = some (.int v0.length ts)) (w3 : m (Str.ofString "found") = some (.ref D')) (w4 : m (Str.ofString "refs") = some (.ref l'))
    (mT : (aT, listOf [.ref aC, .int T'.t tk].toArray n) ∈ led) (mC : (aC, listOf vs.toArray nc) ∈ led) (hi : IntsAre vs T'.cells) (mN : (aN, listOf [.ref a0, .ref a1, .ref a2].toArray nN) ∈ led) (m0 : (a0, listOf w0.toArray n0) ∈ led) (m1 : (a1, listOf x1.toArray n1) ∈ led) (m2 : (a2, listOf x2.toArray n2) ∈ led) (c0 : w0 = v0 ++ .none :: vs0) (c1 : x1 = v1 ++ vs1) (c2 : x2 = v2 ++ vs2)
    (ml : (l', listOf rs.toArray nR) ∈ led) (hl' : L < l') (nd : [aT, aC, aN, a0, a1, a2].Nodup) (t0 : a0 < L) (t1 : a1 < L) (t2 : a2 < L)
    (hp : st.pre = st :: l) (hq : st.post = k ++ [st]) (hL : s.heap.objs.size = L) (hNN : oN = listOf [.ref a0, .ref a1, .ref a2].toArray nN)
    (hret : ∀ h' tk' r vs0 vs1 vs2 fz, Left s.heap h' aT aC aN a0 a1 a2 T' ⟨v0, v1, v2⟩ mark (r :: vs0) vs1 vs2 st.pre st.post fz → R (.ok (.ret r)) { s with heap := h', toks := tk' })
    (hg1 : ∀ b o, s.heap.get? b = some o → b ∉ ([(aT, oT), (aC, oC), (aN, oN), (a0, o0), (a1, o1), (a2, o2)] : List (Addr × Obj)).map (·.1) → g.get? b = some o) (hN : s.heap.get? aN = some oN)
    (hf : ∀ p ∈ fz, p ∈ led) (hz : ∀ p ∈ fz, L < p.1) (y0 : v0.length ≤ 5000) (y1 : v1.length + vs1.length ≤ 90000) (y2 : v2.length + vs2.length ≤ 90000)
    (dv : Dv (Iv led) (.ref D') (st.toD mark)) (dr : Dvs (Iv led) rs (st.refs.map (Rf.toD mark))) (d0 : Dvs (Iv led) vs0 (toDs mark l)) (d1 : Dvs (Iv led) vs1 (toDs mark k)) (d2 : Prs (Iv led) fz mark vs2 k) :
    CodeFrom 97 prog w 6 A L (endOf R) (fun _ _ => False) ⟨h, s.gens, s.drawn, tkk, s.os⟩ := by
  subst c0 c1 c2
  obtain ⟨⟨u1, u2, u3, u4, u5⟩, ⟨u6, u7, u8, u9⟩, ⟨u10, u11, u12⟩, ⟨u13, u14⟩, u15⟩ := lists_nd nd
  obtain ⟨imm, hi0, hi1⟩ := without3 led a0 a1 a2
  have up : ∀ a vs n, Iv led a (tupOf vs n) → Iv imm a (tupOf vs n) := fun a vs n q => hi1 _ q (tup_apart N q m0) (tup_apart N q m1) (tup_apart N q m2)
  have N1 : News g L h ((aN, listOf [.ref a0, .ref a1, .ref a2].toArray nN) :: (a0, listOf (v0 ++ .none :: vs0).toArray n0) :: (a1, listOf (v1 ++ vs1).toArray n1) :: (a2, listOf (v2 ++ vs2).toArray n2) :: imm) :=
    List.forall_mem_cons.mpr ⟨N _ mN, List.forall_mem_cons.mpr ⟨N _ m0, List.forall_mem_cons.mpr ⟨N _ m1, List.forall_mem_cons.mpr ⟨N _ m2, fun p hp => N p (hi0 p hp).1⟩⟩⟩⟩
  have mT' := hi1 _ mT u3 u4 u5
  have mC' := hi1 _ mC u7 u8 u9
  have mN' := hi1 _ mN u10 u11 u12
  have ml' := hi1 _ ml (Nat.ne_of_gt (Nat.lt_trans t0 hl')) (Nat.ne_of_gt (Nat.lt_trans t1 hl')) (Nat.ne_of_gt (Nat.lt_trans t2 hl'))
  have q0 : ∀ p ∈ imm, (@Ne Nat p.1 a0) := fun p hp => (hi0 p hp).2.1
  have q1 : ∀ p ∈ imm, (@Ne Nat p.1 a1) := fun p hp => (hi0 p hp).2.2.1
  have q2 : ∀ p ∈ imm, (@Ne Nat p.1 a2) := fun p hp => (hi0 p hp).2.2.2
  have hf' : ∀ p ∈ fz, p ∈ imm := fun p hp => hi1 p (hf p hp) (Nat.ne_of_gt (Nat.lt_trans t0 (hz p hp))) (Nat.ne_of_gt (Nat.lt_trans t1 (hz p hp))) (Nat.ne_of_gt (Nat.lt_trans t2 (hz p hp)))
  replace dv := dv.mono up
  replace dr := dr.mono up
  replace d0 := d0.mono up
  replace d1 := d1.mono up
  replace d2 := d2.mono up (fun _ q => q)
  have F1 := fr4 F w1 w2 w3 w4
  have X := B.X
  obtain ⟨p, loose, mean, mg, mb, Tp⟩ := B.T
  clear F N mT mC mN m0 m1 m2 ml hi0 hi1 up t0 t1 t2 hf nd
  refine' CodeFrom.intro ?ho ?_
  case ho => k_is
  intro _
  simp only [List.drop_succ_cons, List.drop_zero]
  refine wpAny_execs_cons ?_
  try dsimp only
  k_steps
  all_goals (try dsimp only)
  k_extra "og_peel"
  rename News _ _ _ _ => N9
  rename Fr _ _ _ _ => F9
  have hl := hl6 (a := aT) (b := aC) (c := aN) (d := a0) (e := a1) (f := a2) N9 (by k_mem) (by k_mem) (by k_mem) (by k_mem) (by k_mem) (by k_mem)
  have nv := new_view hg1 N9 hl (imm := imm) (by intro p hp; k_mem)
  refine made_fin (vs0 := vs0) (vs1 := vs1) (vs2 := vs2) (D' := D') (l' := l') (fz := fz) hp hq hL hNN hret hg1 F9 N9 hN (by k_mem) (by k_mem) hi (by k_mem) (by k_mem) (by k_mem) (by k_mem) rfl rfl (by k_mem) hl' (by k_mem) (fun p hp => by have q := hf' p hp; k_mem) hz (dv.mono nv) (dr.mono nv) (d0.mono nv) (d1.mono nv) (d2.mono nv fun _ q => q)
theorem rulesOgRefsL : True := by
  w_top off
  k_with_none
  k_with "spliced" => ((with_reducible show wpAny _ _ (spliced (backTo _ (starEach (_ :: _) _))) _ _ _); k_dflt (refine' args_at ?ogF ?ogk ?ogv ?_; (case ogF => k_asm); (case ogk => rfl); (case ogv => rfl)); k_whole)
  k_with "eval Constant int" => refine int_at ?_
  k_with "eval Constant str" => refine str_at ?_
  k_with "eval Call" => (k_dflt (first | (refine' callK_at ?ogF ?ogX ?ogT ?oge ?ogf ?ogk ?ogg ?ogd ?ogv ?_; (case ogX => k_asm); (case ogT => k_asm); (case oge => k_is); (case ogf => k_is); (case ogg => rfl); (case ogd => rfl); (case ogF => k_asm); (case ogk => rfl); (case ogv => rfl); k_whole) | (refine' callB_at ?ogF ?ogX ?ogT ?oge ?ogb ?ogi ?ogn ?ogk ?ogg ?ogd ?ogv ?_; (case ogX => k_asm); (case ogT => k_asm); (case oge => k_is); (case ogb => boot_fast); (case ogi => rfl); (case ogn => decide); (case ogg => rfl); (case ogd => rfl); (case ogF => k_asm); (case ogk => rfl); (case ogv => rfl); k_whole)))
  k_with "eval Subscript" => (k_dflt (refine' sub_at ?ogF ?ogk ?ogv ?ogw ?_; (case ogF => k_asm); (case ogk => rfl); (case ogv => rfl); (case ogw => rfl)); k_whole)
  k_with "ite" => (k_closed; k_dflt (first | refine iteT rfl ?_ | refine iteF rfl ?_))
  k_with "isTrue Compare" => (k_dflt (refine' cmp_at ?ogF ?ogk ?ogv ?ogw ?ogb ?_; (case ogF => k_asm); (case ogk => rfl); (case ogv => rfl); (case ogw => rfl); (case ogb => rfl)); k_whole)
  k_with "og_mem" => first | with_reducible assumption | (refine memI ?_; with_reducible assumption) | (refine List.mem_append_right _ ?_; k_mem) | (refine List.mem_append_left _ ?_; k_mem)
  k_with "og_neo" => first | exact neLt (by assumption) (by k_mem) | exact neGt (by assumption) (by k_mem) | (refine neN ?_; (try dsimp only); lia)
  k_with "og_ne" => first | assumption | exact Ne.symm (by assumption) | (k_extra "og_neo")
  k_with "og_all" => first | assumption | exact neAll (by assumption) (fun _ h => h) | exact neAll (by assumption) (by intro p hp; k_mem) | exact off1 (by assumption) (by assumption) | exact LCg_lt (by assumption) | exact offL (by assumption) (by k_mem) | exact off_tup (by assumption) (by assumption) (by intro p hp; k_mem) (by k_mem) | (refine List.forall_mem_append.mpr ⟨?_, ?_⟩ <;> k_all) | exact off1 (by assumption) (by lia)
  k_with "og_d" => first | exact dlt hd rfl rfl | exact dlt0 hd rfl rfl | exact dle hd rfl rfl | exact dle0 hd rfl rfl | exact dlq hd rfl rfl | exact dlq0 hd rfl rfl | exact dmk hd rfl | exact drk hd rfl | exact drk0 hd rfl | (simp only [depth_deeper, depth_in1]; lia)
  k_with "og_u" => first | exact dlt hu rfl rfl | exact dlt0 hu rfl rfl | exact dle hu rfl rfl | exact dle0 hu rfl rfl | exact dlq hu rfl rfl | exact dlq0 hu rfl rfl | exact umk hu rfl | exact urk hu rfl | exact urk0 hu rfl | (simp only [units_deeper, units_in1]; lia)
  k_with "og_memb" => (repeat' (first | exact List.forall_mem_nil _ | (intro p hp; k_mem; done) | refine List.forall_mem_append.mpr ⟨?_, ?_⟩ | refine List.forall_mem_cons.mpr ⟨?_, ?_⟩ | k_mem))
  k_with "og_peel" => ((try dsimp +zetaDelta only [List.nil_append, List.cons_append] at *); (repeat (first | clear ledk | clear mk | clear qk | clear ek)))
  k_with "newTuple" => (k_dflt (refine' newtup_le ?ogF ?ogN ?_ ?ogz; (case ogF => k_asm); (case ogN => k_asm); (case ogz => kmk_size)); intro _ _ ledk _ _ l1; (try (dsimp +zetaDelta only at l1; k_lt l1)); (try k_sweep); (try (revert l1; intros)))
  k_with "eval Tuple" => (k_dflt (refine' tup_le ?ogF ?ogN ?ogk ?ogv ?ogz ?_; (case ogN => k_asm); (case ogF => k_asm); (case ogk => rfl); (case ogv => rfl); (case ogz => kmk_size)); k_whole; intro _ _ ledk _ _ l1; (try (dsimp +zetaDelta only at l1; k_lt l1)); (try k_sweep); (try (revert l1; intros)))
  k_with "storeName" => (k_dflt (refine' store_le ?ogF ?ogN ?_ ?oga ?ogb; (case ogF => k_asm); (case ogN => k_asm); (case oga => rfl); (case ogb => rfl)); k_whole; intro _ mk _ _; (try k_sweep))
  k_with "call builtin:list.append" => ((with_reducible show wpAny _ _ (call (Value.builtin _) [Value.ref _, _]) _ _ _); k_dflt (refine' append_le ?ogF ?ogN ?ogU ?_ ?ogz; (case ogF => k_asm); (case ogN => k_asm); (case ogU => k_upd); (case ogz => ((try simp only [List.length_append, List.length_cons, List.length_nil]); lia))); k_whole; intro _ ledk _ _; (try k_sweep))
  k_with "newList" => (k_dflt (refine' newList_L ?ogk1 ?ogk2 ?_ ?ogk3; (case ogk1 => k_asm); (case ogk2 => k_asm); (case ogk3 => (simp only [List.length_cons, List.length_nil]; decide)); k_whole); intro l' h' F' N' l1 l2; (try k_lt l1); (try k_lt2 l2); (try k_sweep); (try (revert l' h' F' N' l1 l2; intros)))
  k_with "call builtin:list.append" => (k_dflt (refine' append_l ?ogk1 ?ogk2 ?ogk3 ?ogz ?_; (case ogk1 => k_asm); (case ogk2 => k_asm); (case ogk3 => k_upd); (case ogz => (first | exact Nat.le_of_ble_eq_true rfl | ((try simp only [List.length_append, List.length_cons, List.length_nil]); lia))); k_whole); intro h' F' N'; (try simp only [List.cons_append, List.nil_append, List.append_assoc] at N'); (try dsimp only); (try k_sweep); (try (revert h' F' N'; intros)))
  k_with "call builtin:list.pop" => (k_dflt (refine' pop_l ?ogF ?ogN ?ogU ?ogz ?_; (case ogF => k_asm); (case ogN => k_asm); (case ogU => k_upd); (case ogz => (first | exact Nat.le_of_ble_eq_true rfl | ((try simp only [List.length_append, List.length_cons, List.length_nil, List.length_reverse]); lia))); k_whole); intro h' F' N'; (try dsimp only); (try k_sweep); (try (revert h' F' N'; intros)))
  k_with "compareOp NotEq ref ref" => (k_dflt (first | (refine' ne_nil1 ?ogN ?oga ?ogb ?ogu ?_; (case ogN => k_asm); (case oga => k_mem); (case ogb => k_mem); (case ogu => (k_extra "og_u")); k_whole) | (refine' ne_nil0 ?ogN ?oga ?ogb ?ogu ?_; (case ogN => k_asm); (case oga => k_mem); (case ogb => k_mem); (case ogu => (k_extra "og_u")); k_whole)))
  k_with "call builtin:isinstance" => ((with_reducible show wpAny _ _ (call _ [Value.ref _, Value.type _]) _ _ _); k_dflt (refine' isi_tupL ?ogF ?ogN ?ogX ?ogg ?oghn ?_; (case ogF => k_asm); (case ogN => k_asm); (case ogg => with_reducible assumption); (case ogX => assumption); (case oghn => (k_extra "og_memb")); k_whole); intro _; (try dsimp only))
  k_with "call ref" => (k_dflt (refine' call_isref ?ogB ?ogF ?ogN ?oghv ?oghn ?ogh5 ?oghb ?oghl ?ogA ?ogd ?ogu ?_; (case ogB => assumption); (case ogF => k_asm); (case ogN => k_asm); (case oghv => with_reducible assumption); (case ogh5 => assumption); (case oghb => assumption); (case oghl => assumption); (case oghn => (k_extra "og_memb")); (case ogA => k_asm); (case ogd => (k_extra "og_d")); (case ogu => (k_extra "og_u")); k_whole); intro h' tk' F' N'; (try dsimp only); (try k_sweep); (try (revert h' tk' F' N'; intros)))
  k_with "subscriptTail" => ((with_reducible show wpAny _ _ (subscriptTail _ _ (Value.ref _) (Value.ref _)) _ _ _); k_dflt (refine' rev_tL ?ogF ?ogN ?ogg ?oghn ?ogz ?_ ?ogs ?ogt; (case ogF => k_asm); (case ogN => k_asm); (case ogg => with_reducible assumption); (case oghn => (k_extra "og_memb")); (case ogz => lia); (case ogs => with_unfolding_all rfl); (case ogt => (intro _; with_unfolding_all rfl)); k_whole); intro D' h' F' N' l1 l2; (try dsimp only); (try k_lt l1); (try k_lt2 l2); (try k_sweep); (try (revert D' h' F' N' l1 l2; intros)))
  k_with "subscriptTail Name Slice ref ref" => ((with_reducible show wpAny _ _ (subscriptTail _ _ (Value.ref _) (Value.ref _)) _ _ _); k_dflt (refine' rev_tL ?ogF ?ogN ?ogg ?oghn ?ogz ?_ ?ogs ?ogt; (case ogF => k_asm); (case ogN => k_asm); (case ogg => with_reducible assumption); (case oghn => (k_extra "og_memb")); (case ogz => lia); (case ogs => with_unfolding_all rfl); (case ogt => (intro _; with_unfolding_all rfl)); k_whole); intro D' h' F' N' l1 l2; (try dsimp only); (try k_lt l1); (try k_lt2 l2); (try k_sweep); (try (revert D' h' F' N' l1 l2; intros)))
  k_with "call builtin:list.extend" => (k_dflt (refine' ext_tL ?ogF ?ogN ?ogb ?ogU ?ogz ?_; (case ogF => k_asm); (case ogN => k_asm); (case ogb => k_mem); (case ogU => k_upd); (case ogz => (first | exact Nat.le_of_ble_eq_true rfl | ((try simp only [List.length_append, List.length_cons, List.length_nil, List.length_reverse]); lia))); k_whole); intro h' F' N'; (try dsimp only); (try k_sweep); (try (revert h' F' N'; intros)))
  k_with "call builtin:isinstance" => (k_dflt (refine' isi_atom ?ogd ?oga ?ogF ?ogX ?_; (case ogd => with_reducible assumption); (case oga => with_reducible assumption); (case ogF => k_asm); (case ogX => assumption)); k_whole; intro _; (try dsimp only))
  trivial
theorem atom_refs {d : D} (h : d.isAtom = true) : d.refsD = [] := by
  cases d
  case tup => cases h
  all_goals first | exact D.refsD.eq_2 | exact D.refsD.eq_3 _ | exact D.refsD.eq_4 _ | exact D.refsD.eq_5 _ | exact D.refsD.eq_6 _
inductive RefI (g : Heap) (aF aL : Nat) (m0 : Str → Option Value) (K : List (Addr × Obj)) (tot : List D) : Nat → (Str → Option Value) → List (Addr × Obj) → Prop
  | mk {m₁ : Str → Option Value} (o : Option Value) (nw : List (Addr × Obj)) (fs ls : List Value) (nF nL : Nat) (done todo : List D) (em : m₁ = (fun y => if y = Str.ofString "one" then o else m0 y)) (hK : ∀ p ∈ K, p ∈ nw)
      (dF : Dvs (Lv g nw) fs done) (dL : Dvs (Lv g nw) ls todo.reverse) (o2 : ∀ p ∈ nw, p.1 ≠ aF) (o3 : ∀ p ∈ nw, p.1 ≠ aL) (hcat : done ++ refsL todo = tot) (hg : goodL todo) (hnn : done.length + nodesL todo ≤ 2000) :
      RefI g aF aL m0 K tot (nodesL todo) m₁ ((aF, listOf fs.toArray nF) :: (aL, listOf ls.toArray nL) :: nw)
theorem one_again {m0 : Str → Option Value} {o : Option Value} {v : Value} : (fun y => if y = Str.ofString "one" then some v else if y = Str.ofString "one" then o else m0 y) = (fun y => if y = Str.ofString "one" then some v else m0 y) := by
  funext y
  by_cases hy : y = Str.ofString "one"
  · rw [if_pos hy, if_pos hy]
  · rw [if_neg hy, if_neg hy, if_neg hy]
noncomputable abbrev m0W (aL l9 : Nat) (v : Value) : Str → Option Value := fun y => if y = Str.ofString "line" then some (Value.ref aL) else if y = Str.ofString "found" then some (Value.ref l9) else List.lookup y [(Str.ofString "thing", v)].reverse
theorem refsw_loop {prog : Program} {w : World} {A : Around} {s : Shared} {R : Result → Shared → Prop} {v r : Value} {tot : List D} {d0 : D} {g h9 : Heap} {l9 aL tk9 nF0 nL0 : Nat} {nw K : List (Addr × Obj)} {oP : Obj} {m9 : Str → Option Value}
    (B' : Base w g) (F8 : Fr g s.heap.objs.size h9 m9) (em : m9 = m0W aL l9 v) (N7 : News g s.heap.objs.size h9 ((l9, listOf [].toArray nF0) :: (aL, listOf [r].toArray nL0) :: nw)) (hK : ∀ p ∈ K, p ∈ nw)
    (offF : ∀ p ∈ nw, p.1 ≠ l9) (offA : ∀ p ∈ nw, p.1 ≠ aL) (FA : @LT.lt Nat _ l9 aL) (LF : @LT.lt Nat _ s.heap.objs.size l9)
    (TK : ∀ {h9 : Heap} {nw9 : List (Addr × Obj)}, (∀ b o, g.get? b = some o → h9.get? b = some o) → News g s.heap.objs.size h9 nw9 → (∀ p ∈ K, p ∈ nw9) → TabV (Hv h9) 60 43 36 qualW)
    (hg1 : ∀ b o, s.heap.get? b = some o → b ∉ ([(60, oP)] : List (Addr × Obj)).map (·.1) → g.get? b = some o) (dv : Dv (Lv g nw) r d0) (hgood : d0.good) (hnodes : d0.nodes ≤ 2000) (htot : d0.refsD = tot)
    (hA : A.handled = none) (hd : A.depth + 40 < 800) (hu : A.units + 80 < 4500)
    (h : ∀ h' tk' a vs n, Kp [60] s.heap h' → TabV (Hv h') 60 43 36 qualW → s.heap.objs.size ≤ a → h'.get? a = some (listOf vs.toArray n) → Dvs (Hv h') vs tot → R (.ok (.ret (.ref a))) { s with heap := h', toks := tk' }) :
    CodeFrom 65 prog w 2 A s.heap.objs.size (fun fl s' => R (.ok (.ret (match fl with | .ret v => v | _ => .none))) s') (fun _ _ => False) ⟨h9, s.gens, s.drawn, tk9, s.os⟩ := by
  have X := B'.X
  obtain ⟨p, loose, mean, mg, mb, Tp⟩ := B'.T
  subst em
  refine' CodeFrom.intro ?ho ?_
  case ho => k_is
  intro _
  simp only [List.drop_succ_cons, List.drop_zero]
  refine wpAny_execs_cons ?_
  try dsimp only
  refine While_inv (RefI g l9 aL (m0W aL l9 v) K tot) F8 N7 (.mk none nw [] [r] nF0 nL0 [] [d0] ?_ hK .nil (.one dv) offF offA ?_ ⟨hgood, trivial⟩ ?_) ?turn
  · funext y
    by_cases hy : y = Str.ofString "one"
    · subst hy; rfl
    · rw [if_neg hy]
  · rw [refsL.eq_2, refsL.eq_1, ← htot]; simp
  · rw [nodesL.eq_2, nodesL.eq_1]; simpa using hnodes
  clear N7 F8 offF offA dv hgood hnodes hK htot
  intro n m₁ news₁ h₁ tk₁ F N hJ
  cases hJ with
  | mk o nw fs ls nF nL done todo em hK dF dL o2 o3 hcat hg hnn =>
  subst em
  have hfs := dF.length
  have htl := nodesL_len todo
  have hls := dL.length
  rw [List.length_reverse] at hls
  cases todo with
  | nil =>
    cases dL
    clear hls hfs htl hg hnn
    k_steps
    all_goals (try dsimp only)
    k_extra "og_peel"
    rename Fr _ _ _ _ => F9
    rename News _ _ _ _ => N9
    rw [refsL.eq_1, List.append_nil] at hcat
    subst hcat
    refine h _ _ l9 fs nF (kp_fin hg1 F9 (by simp) (Nat.le_refl _)) (TK F9.keep N9 fun p hp => ?_) (Nat.le_of_lt LF) (N9.get (by k_mem)) (dvs_up F9 N9 (by (k_extra "og_memb")) dF)
    have := hK p hp
    simp only [List.mem_cons, this, or_true]
  | cons t todo =>
    rw [List.reverse_cons] at dL
    obtain ⟨ls, v', rfl, dL2, dt⟩ := Dvs.snoc dL
    clear dL
    rw [goodL.eq_2] at hg
    rw [nodesL.eq_2] at hnn
    rw [refsL.eq_2] at hcat
    have h5 := good_h5 hg.1
    have hnp := nodes_pos t
    have htl2 := nodesL_len todo
    rw [List.length_append] at hls
    simp only [List.length_cons, List.length_nil] at hls htl
    have hl : ∀ ds, t = .tup ds → ds.length ≤ 5000 := fun ds e => by
      have := nodesL_len ds
      rw [e, D.nodes.eq_1] at hnn; lia
    rcases D.atom_or t with ha | ⟨ds, rfl⟩
    · have hb := atom_ref ha
      k_steps
      all_goals (try dsimp only)
      k_extra "og_peel"
      rename Fr _ _ _ _ => F9
      rename News _ _ _ _ => N9
      refine WhileStep.intro (n' := nodesL (todo)) (news₂ := (l9, listOf (fs).toArray (nF)) :: (aL, listOf (ls).toArray (nL + 1)) :: nw) F9 (fun p hp => N9 p ?_) ?_ (.mk (some v') nw fs ls _ _ done todo one_again hK dF dL2 o2 o3 ?_ hg.2 ?_)
      · simp only [List.mem_cons] at hp ⊢
        rcases hp with hp | hp | hp <;> simp only [hp, true_or, or_true]
      · rw [nodesL.eq_2]; lia
      · rw [← hcat, atom_refs ha]; rfl
      · lia
    · have dt9 := dt
      cases dt with
      | @tup a vs n9 _ hp hs =>
      have hvl : vs.length ≤ 5000 := by have := hl _ rfl; have := hs.length; lia
      rw [D.refsD.eq_1] at hcat
      rw [D.nodes.eq_1] at hnn
      cases hb : (D.tup ds).isRef with
      | false =>
        k_steps
        all_goals (try dsimp only)
        k_extra "og_peel"
        rename Fr _ _ _ _ => F9
        rename News _ _ _ _ => N9
        refine WhileStep.intro (n' := nodesL (ds ++ todo)) (news₂ := (l9, listOf (fs).toArray (nF)) :: (aL, listOf (ls ++ vs.reverse).toArray (if vs.reverse.length = 0 then nL + 1 else nL + 1 + 1)) :: nw) F9 (fun p hp => N9 p ?_) ?_ (.mk (some (Value.ref a)) nw fs (ls ++ vs.reverse) _ _ done (ds ++ todo) one_again hK dF (by rw [List.reverse_append]; exact dL2.append hs.reverse) o2 o3 ?_ (goodL_app (goodL_tup hg.1) hg.2) ?_)
        · simp only [List.mem_cons] at hp ⊢
          rcases hp with hp | hp | hp <;> simp only [hp, true_or, or_true]
        · rw [nodesL.eq_2]; rw [nodesL_app, D.nodes.eq_1]; lia
        · rw [← hcat, refsL_app, hb]; simp
        · rw [nodesL_app]; lia
      | true =>
        k_steps
        all_goals (try dsimp only)
        k_extra "og_peel"
        rename Fr _ _ _ _ => F9
        rename News _ _ _ _ => N9
        refine WhileStep.intro (n' := nodesL (ds ++ todo)) (news₂ := (l9, listOf (fs ++ [Value.ref a]).toArray (nF + 1)) :: (aL, listOf (ls ++ vs.reverse).toArray (if vs.reverse.length = 0 then nL + 1 else nL + 1 + 1)) :: nw) F9 (fun p hp => N9 p ?_) ?_ (.mk (some (Value.ref a)) nw (fs ++ [Value.ref a]) (ls ++ vs.reverse) _ _ (done ++ [D.tup ds]) (ds ++ todo) one_again hK (dF.append (.one dt9)) (by rw [List.reverse_append]; exact dL2.append hs.reverse) o2 o3 ?_ (goodL_app (goodL_tup hg.1) hg.2) ?_)
        · simp only [List.mem_cons] at hp ⊢
          rcases hp with hp | hp | hp <;> simp only [hp, true_or, or_true]
        · rw [nodesL.eq_2]; rw [nodesL_app, D.nodes.eq_1]; lia
        · rw [← hcat, refsL_app, hb]; simp
        · rw [nodesL_app]; rw [List.length_append]; simp only [List.length_singleton]; lia
theorem rulesOgRefsW : True := by
  w_top off
  k_with_none
  k_with "spliced" => ((with_reducible show wpAny _ _ (spliced (backTo _ (starEach (_ :: _) _))) _ _ _); k_dflt (refine' args_at ?ogF ?ogk ?ogv ?_; (case ogF => k_asm); (case ogk => rfl); (case ogv => rfl)); k_whole)
  k_with "eval Constant int" => refine int_at ?_
  k_with "eval Constant str" => refine str_at ?_
  k_with "eval Call" => (k_dflt (first | (refine' callK_at ?ogF ?ogX ?ogT ?oge ?ogf ?ogk ?ogg ?ogd ?ogv ?_; (case ogX => k_asm); (case ogT => k_asm); (case oge => k_is); (case ogf => k_is); (case ogg => rfl); (case ogd => rfl); (case ogF => k_asm); (case ogk => rfl); (case ogv => rfl); k_whole) | (refine' callB_at ?ogF ?ogX ?ogT ?oge ?ogb ?ogi ?ogn ?ogk ?ogg ?ogd ?ogv ?_; (case ogX => k_asm); (case ogT => k_asm); (case oge => k_is); (case ogb => boot_fast); (case ogi => rfl); (case ogn => decide); (case ogg => rfl); (case ogd => rfl); (case ogF => k_asm); (case ogk => rfl); (case ogv => rfl); k_whole)))
  k_with "eval Subscript" => (k_dflt (refine' sub_at ?ogF ?ogk ?ogv ?ogw ?_; (case ogF => k_asm); (case ogk => rfl); (case ogv => rfl); (case ogw => rfl)); k_whole)
  k_with "ite" => (k_closed; k_dflt (first | refine iteT rfl ?_ | refine iteF rfl ?_))
  k_with "isTrue Compare" => (k_dflt (refine' cmp_at ?ogF ?ogk ?ogv ?ogw ?ogb ?_; (case ogF => k_asm); (case ogk => rfl); (case ogv => rfl); (case ogw => rfl); (case ogb => rfl)); k_whole)
  k_with "og_mem" => first | with_reducible assumption | (refine memI ?_; with_reducible assumption) | (refine List.mem_append_right _ ?_; k_mem) | (refine List.mem_append_left _ ?_; k_mem)
  k_with "og_neo" => first | exact neLt (by assumption) (by k_mem) | exact neGt (by assumption) (by k_mem) | (refine neN ?_; (try dsimp only); lia)
  k_with "og_ne" => first | assumption | exact Ne.symm (by assumption) | (k_extra "og_neo")
  k_with "og_all" => first | assumption | exact neAll (by assumption) (fun _ h => h) | exact neAll (by assumption) (by intro p hp; k_mem) | exact off1 (by assumption) (by assumption) | exact LCg_lt (by assumption) | exact offL (by assumption) (by k_mem) | exact off_tup (by assumption) (by assumption) (by intro p hp; k_mem) (by k_mem) | (refine List.forall_mem_append.mpr ⟨?_, ?_⟩ <;> k_all) | exact off1 (by assumption) (by lia)
  k_with "og_d" => first | exact dlt hd rfl rfl | exact dlt0 hd rfl rfl | exact dle hd rfl rfl | exact dle0 hd rfl rfl | exact dlq hd rfl rfl | exact dlq0 hd rfl rfl | exact dmk hd rfl | exact drk hd rfl | exact drk0 hd rfl | (simp only [depth_deeper, depth_in1]; lia)
  k_with "og_u" => first | exact dlt hu rfl rfl | exact dlt0 hu rfl rfl | exact dle hu rfl rfl | exact dle0 hu rfl rfl | exact dlq hu rfl rfl | exact dlq0 hu rfl rfl | exact umk hu rfl | exact urk hu rfl | exact urk0 hu rfl | (simp only [units_deeper, units_in1]; lia)
  k_with "og_memb" => (repeat' (first | exact List.forall_mem_nil _ | (intro p hp; k_mem; done) | refine List.forall_mem_append.mpr ⟨?_, ?_⟩ | refine List.forall_mem_cons.mpr ⟨?_, ?_⟩ | k_mem))
  k_with "og_peel" => ((try dsimp +zetaDelta only [List.nil_append, List.cons_append] at *); (repeat (first | clear ledk | clear mk | clear qk | clear ek)))
  k_with "newTuple" => (k_dflt (refine' newtup_le ?ogF ?ogN ?_ ?ogz; (case ogF => k_asm); (case ogN => k_asm); (case ogz => kmk_size)); intro _ _ ledk _ _ l1; (try (dsimp +zetaDelta only at l1; k_lt l1)); (try k_sweep); (try (revert l1; intros)))
  k_with "eval Tuple" => (k_dflt (refine' tup_le ?ogF ?ogN ?ogk ?ogv ?ogz ?_; (case ogN => k_asm); (case ogF => k_asm); (case ogk => rfl); (case ogv => rfl); (case ogz => kmk_size)); k_whole; intro _ _ ledk _ _ l1; (try (dsimp +zetaDelta only at l1; k_lt l1)); (try k_sweep); (try (revert l1; intros)))
  k_with "storeName" => (k_dflt (refine' store_le ?ogF ?ogN ?_ ?oga ?ogb; (case ogF => k_asm); (case ogN => k_asm); (case oga => rfl); (case ogb => rfl)); k_whole; intro _ mk _ _; (try k_sweep))
  k_with "call builtin:list.append" => ((with_reducible show wpAny _ _ (call (Value.builtin _) [Value.ref _, _]) _ _ _); k_dflt (refine' append_le ?ogF ?ogN ?ogU ?_ ?ogz; (case ogF => k_asm); (case ogN => k_asm); (case ogU => k_upd); (case ogz => ((try simp only [List.length_append, List.length_cons, List.length_nil]); lia))); k_whole; intro _ ledk _ _; (try k_sweep))
  k_with "newList" => (k_dflt (refine' newList_L ?ogk1 ?ogk2 ?_ ?ogk3; (case ogk1 => k_asm); (case ogk2 => k_asm); (case ogk3 => (simp only [List.length_cons, List.length_nil]; decide)); k_whole); intro l' h' F' N' l1 l2; (try k_lt l1); (try k_lt2 l2); (try k_sweep); (try (revert l' h' F' N' l1 l2; intros)))
  k_with "call builtin:list.append" => (k_dflt (refine' append_l ?ogk1 ?ogk2 ?ogk3 ?ogz ?_; (case ogk1 => k_asm); (case ogk2 => k_asm); (case ogk3 => k_upd); (case ogz => (first | exact Nat.le_of_ble_eq_true rfl | ((try simp only [List.length_append, List.length_cons, List.length_nil]); lia))); k_whole); intro h' F' N'; (try simp only [List.cons_append, List.nil_append, List.append_assoc] at N'); (try dsimp only); (try k_sweep); (try (revert h' F' N'; intros)))
  k_with "call builtin:list.pop" => (k_dflt (refine' pop_l ?ogF ?ogN ?ogU ?ogz ?_; (case ogF => k_asm); (case ogN => k_asm); (case ogU => k_upd); (case ogz => (first | exact Nat.le_of_ble_eq_true rfl | ((try simp only [List.length_append, List.length_cons, List.length_nil, List.length_reverse]); lia))); k_whole); intro h' F' N'; (try dsimp only); (try k_sweep); (try (revert h' F' N'; intros)))
  k_with "compareOp NotEq ref ref" => (k_dflt (first | (refine' ne_nil1 ?ogN ?oga ?ogb ?ogu ?_; (case ogN => k_asm); (case oga => k_mem); (case ogb => k_mem); (case ogu => (k_extra "og_u")); k_whole) | (refine' ne_nil0 ?ogN ?oga ?ogb ?ogu ?_; (case ogN => k_asm); (case oga => k_mem); (case ogb => k_mem); (case ogu => (k_extra "og_u")); k_whole)))
  k_with "execs cons" => ((with_reducible show wpAny _ _ (execs (Stmt.While _ _ _ _ :: _) _) _ _ _); k_dflt (refine Hold.mk ?_))
  k_with "call builtin:isinstance" => ((with_reducible show wpAny _ _ (call _ [Value.ref _, Value.type _]) _ _ _); k_dflt (refine' isi_tupL ?ogF ?ogN ?ogX ?ogg ?oghn ?_; (case ogF => k_asm); (case ogN => k_asm); (case ogg => with_reducible assumption); (case ogX => assumption); (case oghn => (k_extra "og_memb")); k_whole); intro _; (try dsimp only))
  k_with "call ref" => (k_dflt (refine' call_isref ?ogB ?ogF ?ogN ?oghv ?oghn ?ogh5 ?oghb ?oghl ?ogA ?ogd ?ogu ?_; (case ogB => assumption); (case ogF => k_asm); (case ogN => k_asm); (case oghv => with_reducible assumption); (case ogh5 => assumption); (case oghb => assumption); (case oghl => assumption); (case oghn => (k_extra "og_memb")); (case ogA => k_asm); (case ogd => (k_extra "og_d")); (case ogu => (k_extra "og_u")); k_whole); intro h' tk' F' N'; (try dsimp only); (try k_sweep); (try (revert h' tk' F' N'; intros)))
  k_with "subscriptTail" => ((with_reducible show wpAny _ _ (subscriptTail _ _ (Value.ref _) (Value.ref _)) _ _ _); k_dflt (refine' rev_tL ?ogF ?ogN ?ogg ?oghn ?ogz ?_ ?ogs ?ogt; (case ogF => k_asm); (case ogN => k_asm); (case ogg => with_reducible assumption); (case oghn => (k_extra "og_memb")); (case ogz => lia); (case ogs => with_unfolding_all rfl); (case ogt => (intro _; with_unfolding_all rfl)); k_whole); intro D' h' F' N' l1 l2; (try dsimp only); (try k_lt l1); (try k_lt2 l2); (try k_sweep); (try (revert D' h' F' N' l1 l2; intros)))
  k_with "subscriptTail Name Slice ref ref" => ((with_reducible show wpAny _ _ (subscriptTail _ _ (Value.ref _) (Value.ref _)) _ _ _); k_dflt (refine' rev_tL ?ogF ?ogN ?ogg ?oghn ?ogz ?_ ?ogs ?ogt; (case ogF => k_asm); (case ogN => k_asm); (case ogg => with_reducible assumption); (case oghn => (k_extra "og_memb")); (case ogz => lia); (case ogs => with_unfolding_all rfl); (case ogt => (intro _; with_unfolding_all rfl)); k_whole); intro D' h' F' N' l1 l2; (try dsimp only); (try k_lt l1); (try k_lt2 l2); (try k_sweep); (try (revert D' h' F' N' l1 l2; intros)))
  k_with "call builtin:list.extend" => (k_dflt (refine' ext_tL ?ogF ?ogN ?ogb ?ogU ?ogz ?_; (case ogF => k_asm); (case ogN => k_asm); (case ogb => k_mem); (case ogU => k_upd); (case ogz => (first | exact Nat.le_of_ble_eq_true rfl | ((try simp only [List.length_append, List.length_cons, List.length_nil, List.length_reverse]); lia))); k_whole); intro h' F' N'; (try dsimp only); (try k_sweep); (try (revert h' F' N'; intros)))
  trivial
theorem refsw_spec {prog : Program} {w : World} {A : Around} {s : Shared} {G : Heap} {R : Result → Shared → Prop} {v : Value} {st : St} {mk : Str} (B : Base w G) (kp : G.StaysIn s.heap) (gP : G.get? 60 = none) (T : TabV (Hv s.heap) 60 43 36 qualW)
    (hv : Dv (Hv s.heap) v (st.toD mk)) (hgood : (st.exch mk fun _ => .tup []).good) (hnodes : (st.exch mk fun _ => .tup []).nodes ≤ 2000) (hA : A.handled = none) (hd : A.depth + 40 < 800) (hu : A.units + 80 < 4500)
    (h : ∀ h' tk' a vs n, Kp [60] s.heap h' → TabV (Hv h') 60 43 36 qualW → s.heap.objs.size ≤ a → h'.get? a = some (listOf vs.toArray n) → Dvs (Hv h') vs (st.exch mk fun _ => .tup []).refsD → R (.ok (.ret (.ref a))) { s with heap := h', toks := tk' }) :
    codeAny (model prog w) A (.call (.ref 65) ⟨[v], []⟩) R s := by
  have hrm : A.depth < recursionLimit := Nat.lt_trans (by first | exact Nat.lt_of_le_of_lt (Nat.le_add_right _ _) (Nat.lt_trans hd (by decide)) | exact Nat.lt_of_le_of_lt hd (by decide) | lia) (show 800 < recursionLimit by decide)
  refine' withCode (w := w) (f := 65) ?ho0 ?_
  case ho0 => k_is
  intro ho
  rcases T with hP | ⟨c', oc, vs, t, hP, hc, hcd, hcv⟩
  · refine' enter (binds := [(Str.ofString "thing", v)]) B kp [(60, tabObj #[])] ?_ ?_ ?_ hrm ?_ ?_ ?_ ?_ ?_ ?_ ?_
    any_goals k_is
    any_goals (exact BindsTo.of_eq rfl)
    any_goals (exact locs rfl)
    any_goals (first | rfl | decide)
    · exact List.forall_mem_cons.mpr ⟨⟨hP, gP⟩, List.forall_mem_nil _⟩
    intro g h₁ hg1 hg2 F N B'
    have gv := dv_g hg1 (List.forall_mem_cons.mpr ⟨⟨hP, tab_ne⟩, List.forall_mem_nil _⟩) hv
    have X := B'.X
    obtain ⟨p, loose, mean, mg, mb, Tp⟩ := B'.T
    have CH : CodeHd g 64 60 := codeAll_mem B'.C (64, 60) (by simp)
    have l60 : (60 : Nat) < s.heap.objs.size := Heap.lt_size hP
    clear kp B hg2 hrm hv
    k_steps
    all_goals (try dsimp only)
    k_extra "og_peel"
    rename_i l9 h'_0 l1_0 l2_0 h'_1 F'_0 N'_0 f'_0 c'_0 oc'_0 vs'_0 t'_0 ct'_0 h'_2 tk'_0 F'_1 N'_1 d1'_0 d2'_0 l1_1 l2_1
    clear F'_0 N'_0
    refine' call_exch_nil (mk := mk) (st := st) (im := [_, (c'_0, oc'_0)]) (an := Str.ofString "body") (vs' := vs'_0) (t' := t'_0) (oc := oc'_0) B' (by k_asm) (by k_asm) (by k_mem) (.head _) (.inr (by simp)) (by (k_extra "og_memb")) (List.forall_mem_cons.mpr ⟨func_nt, List.forall_mem_cons.mpr ⟨fields_nt d1'_0, List.forall_mem_nil _⟩⟩) gv hA ?hdp ?hu d1'_0 d2'_0 ?b1 ?b2 ?b3 ?b4 ?b5 ?b6 ?turn ?hh
    case hdp => k_extra "og_d"
    case hu => k_extra "og_u"
    case b1 => exact fun v => rfl
    case b2 => exact rfl
    case b3 => decide
    case b4 => exact rfl
    case b5 => exact rfl
    case b6 => exact rfl
    case turn =>
      clear h hA hd hu X Tp CH hP hg1 B' gv F'_1 N'_1
      intro A s g h₁ L tk v Q hA hd hu B' F N hQ
      have X := B'.X
      obtain ⟨p, loose, mean, mg, mb, Tp⟩ := B'.T
      k_steps
      k_extra "og_peel"
      rename Fr _ _ _ _ => F9
      rename News _ _ _ _ => N9
      exact hQ _ _ _ _ F9 N9
    case hh =>
      have N0 := N'_1
      clear N'_1 F'_1
      intro h' tk' r nw F' N' off dv
      clear N0
      try simp only [List.cons_append, List.nil_append, List.append_assoc] at N' dv
      k_steps
      all_goals (try dsimp only)
      k_extra "og_peel"
      rename_i aL h9' q1 q2 h9 F8 N8
      unfold Hold
      have N7 : News g s.heap.objs.size h9 ((l9, listOf [].toArray 0) :: (aL, listOf [r].toArray 0) :: ((60, tabObj #[rawInt (43 : Nat), rawInt (36 : Nat), .ref c'_0]) :: (c'_0, oc'_0) :: nw)) := List.forall_mem_cons.mpr ⟨N8 _ (by k_mem), List.forall_mem_cons.mpr ⟨N8 _ (by k_mem), List.forall_mem_cons.mpr ⟨N8 _ (by k_mem), List.forall_mem_cons.mpr ⟨N8 _ (by k_mem), fun p hp => N8 p (by simp only [List.mem_cons, hp, or_true])⟩⟩⟩⟩
      have offF : ∀ p ∈ (60, tabObj #[rawInt (43 : Nat), rawInt (36 : Nat), .ref c'_0]) :: (c'_0, oc'_0) :: nw, p.1 ≠ l9 := List.forall_mem_cons.mpr ⟨Nat.ne_of_lt l1_0, List.forall_mem_cons.mpr ⟨Nat.ne_of_gt l1_1.1, fun p hp => off p hp (l9, listOf [].toArray 0) (by k_mem)⟩⟩
      have offA : ∀ p ∈ (60, tabObj #[rawInt (43 : Nat), rawInt (36 : Nat), .ref c'_0]) :: (c'_0, oc'_0) :: nw, p.1 ≠ aL := List.forall_mem_cons.mpr ⟨Nat.ne_of_lt q1.2.2.2.1, List.forall_mem_cons.mpr ⟨Nat.ne_of_lt q1.2.1, LCg_lt q1.2.2.2.2⟩⟩
      have FA : @LT.lt Nat _ l9 aL := q1.2.2.1
      have LF : @LT.lt Nat _ s.heap.objs.size l9 := l2_0
      have TK : ∀ {h9 : Heap} {nw9 : List (Addr × Obj)}, (∀ b o, g.get? b = some o → h9.get? b = some o) → News g s.heap.objs.size h9 nw9 → (∀ p ∈ [(60, tabObj #[rawInt (43 : Nat), rawInt (36 : Nat), .ref c'_0]), (c'_0, oc'_0)], p ∈ nw9) → TabV (Hv h9) 60 43 36 qualW := fun F9 N9 hk => .inr ⟨c'_0, oc'_0, vs'_0, t'_0, N9.get (hk _ (.head _)), N9.get (hk _ (.tail _ (.head _))), d1'_0, d2'_0⟩
      exact CodeFrom.out (refsw_loop (K := [(60, tabObj #[rawInt (43 : Nat), rawInt (36 : Nat), .ref c'_0]), (c'_0, oc'_0)]) (tot := (st.exch mk fun _ => .tup []).refsD) (d0 := st.exch mk fun _ => .tup []) B' F8 rfl N7 (List.forall_mem_cons.mpr ⟨.head _, List.forall_mem_cons.mpr ⟨.tail _ (.head _), List.forall_mem_nil _⟩⟩) offF offA FA LF TK hg1 (dv.mono fun a vs n x => x.imp id fun y => .tail _ (.tail _ y)) hgood hnodes rfl hA hd hu h) ho
  · refine' enter (binds := [(Str.ofString "thing", v)]) B kp [(60, tabObj #[rawInt (43 : Nat), rawInt (36 : Nat), .ref c'])] ?_ ?_ ?_ hrm ?_ ?_ ?_ ?_ ?_ ?_ ?_
    any_goals k_is
    any_goals (exact BindsTo.of_eq rfl)
    any_goals (exact locs rfl)
    any_goals (first | rfl | decide)
    · exact List.forall_mem_cons.mpr ⟨⟨hP, gP⟩, List.forall_mem_nil _⟩
    intro g h₁ hg1 hg2 F N B'
    have gv := dv_g hg1 (List.forall_mem_cons.mpr ⟨⟨hP, tab_ne⟩, List.forall_mem_nil _⟩) hv
    have X := B'.X
    obtain ⟨p, loose, mean, mg, mb, Tp⟩ := B'.T
    have CH : CodeHd g 64 60 := codeAll_mem B'.C (64, 60) (by simp)
    have l60 : (60 : Nat) < s.heap.objs.size := Heap.lt_size hP
    have n60 : c' ≠ 60 := ne_data hc hP (by rw [hcd]; intro q; injection q with q; rw [q] at hcv; simp [rawInt] at hcv)
    have gc' : g.get? c' = some oc := hg1 _ _ hc (by simpa using n60)
    have HC : g.CodeRec (.ref c') qualW := ⟨c', oc, vs, t, rfl, gc', hcd, hcv⟩
    clear kp B hg2 hrm hv
    k_steps
    all_goals (try dsimp only)
    k_extra "og_peel"
    rename_i l9 h'_0 l1_0 l2_0 h'_1 F'_0 N'_0 f'_0 ct'_0 h'_2 tk'_0 F'_1 N'_1 l1_1
    clear F'_0 N'_0
    refine' call_exch_nil (mk := mk) (st := st) (im := [_]) (an := Str.ofString "body") (vs' := vs) (t' := t) (oc := oc) B' (by k_asm) (by k_asm) (by k_mem) (.head _) (.inl gc') (by (k_extra "og_memb")) (List.forall_mem_cons.mpr ⟨func_nt, List.forall_mem_nil _⟩) gv hA ?hdp ?hu hcd hcv ?b1 ?b2 ?b3 ?b4 ?b5 ?b6 ?turnA ?hhA
    case hdp => k_extra "og_d"
    case hu => k_extra "og_u"
    case b1 => exact fun v => rfl
    case b2 => exact rfl
    case b3 => decide
    case b4 => exact rfl
    case b5 => exact rfl
    case b6 => exact rfl
    case turnA =>
      clear h hA hd hu X Tp CH hP hg1 B' gv F'_1 N'_1
      intro A s g h₁ L tk v Q hA hd hu B' F N hQ
      have X := B'.X
      obtain ⟨p, loose, mean, mg, mb, Tp⟩ := B'.T
      k_steps
      k_extra "og_peel"
      rename Fr _ _ _ _ => F9
      rename News _ _ _ _ => N9
      exact hQ _ _ _ _ F9 N9
    case hhA =>
      have N0 := N'_1
      clear N'_1 F'_1
      intro h' tk' r nw F' N' off dv
      clear N0
      try simp only [List.cons_append, List.nil_append, List.append_assoc] at N' dv
      k_steps
      all_goals (try dsimp only)
      k_extra "og_peel"
      rename_i aL h9' q1 q2 h9 F8 N8
      unfold Hold
      have N7 : News g s.heap.objs.size h9 ((l9, listOf [].toArray 0) :: (aL, listOf [r].toArray 0) :: ((60, tabObj #[rawInt (43 : Nat), rawInt (36 : Nat), .ref c']) :: nw)) := List.forall_mem_cons.mpr ⟨N8 _ (by k_mem), List.forall_mem_cons.mpr ⟨N8 _ (by k_mem), List.forall_mem_cons.mpr ⟨N8 _ (by k_mem), fun p hp => N8 p (by simp only [List.mem_cons, hp, or_true])⟩⟩⟩
      have offF : ∀ p ∈ (60, tabObj #[rawInt (43 : Nat), rawInt (36 : Nat), .ref c']) :: nw, p.1 ≠ l9 := List.forall_mem_cons.mpr ⟨Nat.ne_of_lt l1_0, fun p hp => off p hp (l9, listOf [].toArray 0) (by k_mem)⟩
      have offA : ∀ p ∈ (60, tabObj #[rawInt (43 : Nat), rawInt (36 : Nat), .ref c']) :: nw, p.1 ≠ aL := List.forall_mem_cons.mpr ⟨Nat.ne_of_lt q1.2.2.1, LCg_lt q1.2.2.2⟩
      have FA : @LT.lt Nat _ l9 aL := q1.2.1
      have LF : @LT.lt Nat _ s.heap.objs.size l9 := l2_0
      have TK : ∀ {h9 : Heap} {nw9 : List (Addr × Obj)}, (∀ b o, g.get? b = some o → h9.get? b = some o) → News g s.heap.objs.size h9 nw9 → (∀ p ∈ [(60, tabObj #[rawInt (43 : Nat), rawInt (36 : Nat), .ref c'])], p ∈ nw9) → TabV (Hv h9) 60 43 36 qualW := fun F9 N9 hk => .inr ⟨c', oc, vs, t, N9.get (hk _ (.head _)), F9 _ _ gc', hcd, hcv⟩
      exact CodeFrom.out (refsw_loop (K := [(60, tabObj #[rawInt (43 : Nat), rawInt (36 : Nat), .ref c'])]) (tot := (st.exch mk fun _ => .tup []).refsD) (d0 := st.exch mk fun _ => .tup []) B' F8 rfl N7 (List.forall_mem_cons.mpr ⟨.head _, List.forall_mem_nil _⟩) offF offA FA LF TK hg1 (dv.mono fun a vs n x => x.imp id fun y => .tail _ y) hgood hnodes rfl hA hd hu h) ho
noncomputable abbrev XS : List Str := [Str.ofString "XA", Str.ofString "XB", Str.ofString "XC"]
noncomputable def isRefX (d : D) : Prop := ∃ who a b c, d = .tup [.str (Str.ofString "ref"), .str who, a, b, c] ∧ who ∈ XS
noncomputable def yName (who : Str) : Str := if who = Str.ofString "XA" then Str.ofString "YA" else if who = Str.ofString "XB" then Str.ofString "YB" else if who = Str.ofString "XC" then Str.ofString "YC" else who
noncomputable def ren1 (ds : List D) : List D := List.casesOn ds [] fun r t => List.casesOn t [r] fun d t => r :: D.casesOn d .none .bool .int (fun x => .str (yName x)) .bytes .tup :: t
noncomputable def renT (ds : List D) : D := if isRefL ds = true then .tup (ren1 ds) else .tup ds
noncomputable def renR (d : D) : D := D.casesOn d .none .bool .int .str .bytes renT
theorem anyS : ChgS [] (fun _ (_ : List D) => True) := ⟨fun _ h => h, fun _ => List.forall_mem_nil _⟩
theorem rulesOgRen : True := by
  w_top off
  k_with_none
  k_with "spliced" => ((with_reducible show wpAny _ _ (spliced (backTo _ (starEach (_ :: _) _))) _ _ _); k_dflt (refine' args_at ?ogF ?ogk ?ogv ?_; (case ogF => k_asm); (case ogk => rfl); (case ogv => rfl)); k_whole)
  k_with "eval Constant int" => refine int_at ?_
  k_with "eval Constant str" => refine str_at ?_
  k_with "eval Call" => (k_dflt (first | (refine' callK_at ?ogF ?ogX ?ogT ?oge ?ogf ?ogk ?ogg ?ogd ?ogv ?_; (case ogX => k_asm); (case ogT => k_asm); (case oge => k_is); (case ogf => k_is); (case ogg => rfl); (case ogd => rfl); (case ogF => k_asm); (case ogk => rfl); (case ogv => rfl); k_whole) | (refine' callB_at ?ogF ?ogX ?ogT ?oge ?ogb ?ogi ?ogn ?ogk ?ogg ?ogd ?ogv ?_; (case ogX => k_asm); (case ogT => k_asm); (case oge => k_is); (case ogb => boot_fast); (case ogi => rfl); (case ogn => decide); (case ogg => rfl); (case ogd => rfl); (case ogF => k_asm); (case ogk => rfl); (case ogv => rfl); k_whole)))
  k_with "eval Subscript" => (k_dflt (refine' sub_at ?ogF ?ogk ?ogv ?ogw ?_; (case ogF => k_asm); (case ogk => rfl); (case ogv => rfl); (case ogw => rfl)); k_whole)
  k_with "ite" => (k_closed; k_dflt (first | refine iteT rfl ?_ | refine iteF rfl ?_))
  k_with "isTrue Compare" => (k_dflt (refine' cmp_at ?ogF ?ogk ?ogv ?ogw ?ogb ?_; (case ogF => k_asm); (case ogk => rfl); (case ogv => rfl); (case ogw => rfl); (case ogb => rfl)); k_whole)
  k_with "execs cons" => ((with_reducible refine wpAny_execs_cons ?_); (try dsimp only); (try clear qk ek); (try k_fold))
  k_with "og_mem" => first | with_reducible assumption | (refine memI ?_; with_reducible assumption) | (refine List.mem_append_right _ ?_; k_mem) | (refine List.mem_append_left _ ?_; k_mem)
  k_with "og_neo" => first | exact neLt (by assumption) (by k_mem) | exact neGt (by assumption) (by k_mem) | (refine neN ?_; (try dsimp only); lia)
  k_with "og_ne" => first | assumption | exact Ne.symm (by assumption) | (k_extra "og_neo")
  k_with "og_all" => first | assumption | exact neAll (by assumption) (fun _ h => h) | exact neAll (by assumption) (by intro p hp; k_mem) | exact off1 (by assumption) (by assumption) | exact LCg_lt (by assumption) | exact offL (by assumption) (by k_mem) | exact off_tup (by assumption) (by assumption) (by intro p hp; k_mem) (by k_mem) | (refine List.forall_mem_append.mpr ⟨?_, ?_⟩ <;> k_all) | exact off1 (by assumption) (by lia)
  k_with "og_peel" => ((try dsimp +zetaDelta only [List.nil_append, List.cons_append] at *); (repeat (first | clear ledk | clear mk | clear qk | clear ek)))
  k_with "og_klt" => skip
  k_with "newTuple" => (k_dflt (refine' newtup_le ?ogF ?ogN ?_ ?ogz; (case ogF => k_asm); (case ogN => k_asm); (case ogz => kmk_size)); intro _ _ ledk _ _ l1; (try skip); (try k_sweep); (try (revert l1; intros)))
  k_with "eval Tuple" => (k_dflt (refine' tup_le ?ogF ?ogN ?ogk ?ogv ?ogz ?_; (case ogN => k_asm); (case ogF => k_asm); (case ogk => rfl); (case ogv => rfl); (case ogz => kmk_size)); k_whole; intro _ _ ledk _ _ l1; (try skip); (try k_sweep); (try (revert l1; intros)))
  k_with "storeName" => (k_dflt (refine' store_le ?ogF ?ogN ?_ ?oga ?ogb; (case ogF => k_asm); (case ogN => k_asm); (case oga => rfl); (case ogb => rfl)); k_whole; intro _ mk _ _; (try k_sweep))
  k_with "call builtin:list.append" => ((with_reducible show wpAny _ _ (call (Value.builtin _) [Value.ref _, _]) _ _ _); k_dflt (refine' append_le ?ogF ?ogN ?ogU ?_ ?ogz; (case ogF => k_asm); (case ogN => k_asm); (case ogU => k_upd); (case ogz => ((try simp only [List.length_append, List.length_cons, List.length_nil]); lia))); k_whole; intro _ ledk _ _; (try k_sweep))
  k_with "subscriptTail" => ((with_reducible show wpAny _ _ (subscriptTail _ _ (Value.ref _) (Value.int _ _)) _ _ _); k_dflt (refine' sub_g ?ogk1 ?ogk2 ?ogk3 ?ogk4 ?ogk5 ?ogk6 ?_ ?ogk7; (case ogk1 => k_asm); (case ogk2 => with_reducible assumption); (case ogk3 => decide); (case ogk4 => decide); (case ogk5 => exact rfl); (case ogk6 => exact rfl); (case ogk7 => with_unfolding_all rfl); k_whole))
  k_with "call builtin:isinstance" => ((with_reducible show wpAny _ _ (call _ [Value.ref _, Value.type _]) _ _ _); k_dflt (refine' isi_tup ?ogF ?ogX ?ogg ?_; (case ogF => k_asm); (case ogg => with_reducible assumption); (case ogX => assumption); k_whole); intro _; (try dsimp only))
  k_with "call builtin:len" => (k_dflt (refine' len_tup ?ogF ?ogg ?ogz ?_; (case ogF => k_asm); (case ogg => with_reducible assumption); (case ogz => lia); k_whole); intro _ _; (try dsimp only))
  trivial
theorem renamed_spec {prog : Program} {w : World} : ChgTo prog w 104 (fun v => [v]) [] (fun _ _ => True) isRefX (fun d => d) renR (fun _ => []) 3 10 := by
  intro A s G R v d l V hd5 B kp hMs hV _ hv hbd hA hd hu h
  have hrm : A.depth < recursionLimit := Nat.lt_trans (by first | exact Nat.lt_of_le_of_lt (Nat.le_add_right _ _) (Nat.lt_trans hd (by decide)) | exact Nat.lt_of_le_of_lt hd (by decide) | lia) (show 800 < recursionLimit by decide)
  refine' enter (binds := [(Str.ofString "ref", v)]) B kp [] ?_ ?_ ?_ hrm ?_ ?_ ?_ ?_ ?_ ?_ ?_
  any_goals k_is
  any_goals (exact BindsTo.of_eq rfl)
  any_goals (exact locs rfl)
  any_goals (first | rfl | decide)
  · exact List.forall_mem_nil _
  intro g h₁ hg1 hg2 F N B'
  have X := B'.X
  obtain ⟨p, loose, mean, mg, mb, Tp⟩ := B'.T
  obtain ⟨who, a, b, c, rfl, hw⟩ := hd5
  obtain ⟨av, vs, nv, hva, hvs⟩ := dvt hv
  cases hvs with
  | @cons v0 _ _ _ d0 hvs =>
  obtain ⟨t0, rfl⟩ := dvstr d0
  cases hvs with
  | @cons v1 _ _ _ d1 hvs =>
  obtain ⟨t1, rfl⟩ := dvstr d1
  obtain ⟨v2, v3, v4, d2, d3, d4⟩ := dvs3 hvs
  have ga : g.get? av = some (tupOf [.str (Str.ofString "ref") t0, .str who t1, v2, v3, v4] nv) := hg1 _ _ (hV _ _ hva) (by simp)
  clear kp B hg2 hrm hv hvs d0 d1 hva
  simp only [List.mem_cons, List.not_mem_nil, or_false] at hw
  rcases hw with rfl | rfl | rfl
  · k_steps
    all_goals (try dsimp only)
    k_extra "og_peel"
    rename Fr _ _ _ _ => F9
    rename News _ _ _ _ => N9
    refine h _ _ _ (kp_fin hg1 F9 (List.forall_mem_nil _) (Nat.le_refl _)) trivial (Dv.sub ?_ (aft_end (Ms := []) hg1 F9 N9 hV (List.forall_mem_nil _) fun p hp => hp))
    have up : ∀ {v d im}, Dv V v d → Dv (Vv V [] im) v d := fun x => x.mono fun a vs n q => .inl ⟨q, List.not_mem_nil⟩
    exact .tup (n := 0) (.inr (.head _)) (.cons (.str _ _) (.cons (.str (Str.ofString "YA") _) (.cons (up d2) (.cons (up d3) (.cons (up d4) .nil)))))
  · k_steps
    all_goals (try dsimp only)
    k_extra "og_peel"
    rename Fr _ _ _ _ => F9
    rename News _ _ _ _ => N9
    refine h _ _ _ (kp_fin hg1 F9 (List.forall_mem_nil _) (Nat.le_refl _)) trivial (Dv.sub ?_ (aft_end (Ms := []) hg1 F9 N9 hV (List.forall_mem_nil _) fun p hp => hp))
    have up : ∀ {v d im}, Dv V v d → Dv (Vv V [] im) v d := fun x => x.mono fun a vs n q => .inl ⟨q, List.not_mem_nil⟩
    exact .tup (n := 0) (.inr (.head _)) (.cons (.str _ _) (.cons (.str (Str.ofString "YB") _) (.cons (up d2) (.cons (up d3) (.cons (up d4) .nil)))))
  · k_steps
    all_goals (try dsimp only)
    k_extra "og_peel"
    rename Fr _ _ _ _ => F9
    rename News _ _ _ _ => N9
    refine h _ _ _ (kp_fin hg1 F9 (List.forall_mem_nil _) (Nat.le_refl _)) trivial (Dv.sub ?_ (aft_end (Ms := []) hg1 F9 N9 hV (List.forall_mem_nil _) fun p hp => hp))
    have up : ∀ {v d im}, Dv V v d → Dv (Vv V [] im) v d := fun x => x.mono fun a vs n q => .inl ⟨q, List.not_mem_nil⟩
    exact .tup (n := 0) (.inr (.head _)) (.cons (.str _ _) (.cons (.str (Str.ofString "YC") _) (.cons (up d2) (.cons (up d3) (.cons (up d4) .nil)))))
noncomputable abbrev PureTo {α : Type} (prog : Program) (w : World) (c : Nat) (ar : Value → List Value) (ok : α → Prop) (δ f : α → D) (K U : Nat) : Prop := ChgTo prog w c ar [] (fun _ _ => True) ok δ f (fun _ => []) K U
theorem nil_of {mo : List (Addr × Obj)} (h : ∀ p ∈ mo, p.1 ∈ ([] : List Nat)) : mo = [] := by
  cases mo with
  | nil => rfl
  | cons p r => exact absurd (h p (.head _)) List.not_mem_nil
theorem flat_nil {α : Type} (l : List α) : l.flatMap (fun _ => ([] : List D)) = [] := by
  induction l with
  | nil => rfl
  | cons a r ih => rw [List.flatMap_cons, ih]; rfl
theorem up_v {V : Addr → Obj → Prop} {im : List (Addr × Obj)} {v : Value} {d : D} (x : Dv V v d) : Dv (Vv V [] im) v d := x.mono fun a vs n q => .inl ⟨q, List.not_mem_nil⟩
theorem ups_v {V : Addr → Obj → Prop} {im : List (Addr × Obj)} {v : List Value} {d : List D} (x : Dvs V v d) : Dvs (Vv V [] im) v d := x.mono fun a vs n q => .inl ⟨q, List.not_mem_nil⟩
theorem dv_tV {V : Addr → Obj → Prop} {Ms : List Nat} {T n : Nat} {nw : List (Addr × Obj)} {ys : List Value} {ds : List D} (h : Dvs (Vv V Ms nw) ys ds) : Dv (Vv V Ms ((T, tupOf ys n) :: nw)) (.ref T) (.tup ds) := .tup (n := n) (.inr (.head _)) (h.sub (vv_sub fun p hp => .tail _ hp))
theorem dv_tL {g : Heap} {T n : Nat} {nw : List (Addr × Obj)} {ys : List Value} {ds : List D} (h : Dvs (Lv g nw) ys ds) : Dv (Lv g ((T, tupOf ys n) :: nw)) (.ref T) (.tup ds) := .tup (n := n) (.inr (.head _)) (h.mono fun a vs n x => x.imp id fun q => .tail _ q)
section
variable {prog : Program} {w : World} {A : Around} {E : Value → Shared → Prop} {s : Shared} {g h₀ : Heap} {L : Nat} {m : Str → Option Value} {led im : List (Addr × Obj)} {V : Addr → Obj → Prop}
theorem call_to0 {α : Type} {c : Nat} {ar : Value → List Value} {ok : α → Prop} {δ f : α → D} {K U : Nat} {v : Value} {x : α} {vals : List Value} {Q : Value → Shared → Prop} (C : PureTo prog w c ar ok δ f K U) (hx : ok x) (hvals : vals = ar v) (B : Base w g) (F : Fr g L s.heap m) (N : News g L s.heap led)
    (hg1 : ∀ b o, h₀.get? b = some o → b ∉ ([] : List (Addr × Obj)).map (·.1) → g.get? b = some o) (hV : Sub V (Hv h₀)) (hd : Dv (Vv V [] im) v (δ x)) (him : ∀ p ∈ im, p ∈ led) (hA : A.handled = none) (hdp : A.depth + K < 800) (hu : A.units + U < 4500)
    (h : ∀ h' tk' r nw, Fr g L h' m → News g L h' (led ++ nw) → (∀ p ∈ nw, ∀ q ∈ led, p.1 ≠ q.1) → Dv (Vv V [] (im ++ nw)) r (f x) → Q r { s with heap := h', toks := tk' }) :
    wpAny (model prog w) A (call (.ref c) vals) Q E s := by
  refine call_to (x := x) (l := []) (mo := []) (im := im) @C anyS hx hvals B F N hg1 hV (List.forall_mem_nil _) trivial hd (by simp) (List.forall_mem_nil _) (List.forall_mem_nil _) (List.forall_mem_nil _) (RestV.keepsEnd fun _ _ => List.not_mem_nil) him hA hdp hu
    fun h' tk' r mo' nw F' N' c1 c2 c3 c4 S' d' => ?_
  rw [nil_of c2, List.nil_append] at N'
  exact h h' tk' r nw F' N' c3 d'
noncomputable def TTurn0 (g : Heap) (L : Nat) (m : Str → Option Value) (s : Shared) (I : Addr) (oI : Obj) (C : Addr) (oC : Obj) (D' : Addr) (oD : Obj) (V : Addr → Obj → Prop) (d : D) (x0 nw : List (Addr × Obj)) (y : Value) (s' : Shared) : Prop :=
  ∃ h' tk' nw', s' = { s with heap := h', toks := tk' } ∧ Fr g L h' m ∧ News g L h' ((I, oI) :: (C, oC) :: (D', oD) :: (x0 ++ (nw ++ nw'))) ∧ (∀ p ∈ nw', p.1 ≠ I ∧ p.1 ≠ C ∧ p.1 ≠ D') ∧ Dv (Vv V [] (nw ++ nw')) y d
theorem t_turn0 {h' : Heap} {I C D' tk' : Nat} {oI oC oD : Obj} {x0 nw nwc : List (Addr × Obj)} {r : Value} {b : D} (F : Fr g L h' m) (N : News g L h' ((I, oI) :: (C, oC) :: (D', oD) :: (x0 ++ (nw ++ nwc))))
    (lo : ∀ p ∈ nwc, ∀ q ∈ (I, oI) :: (C, oC) :: (D', oD) :: (x0 ++ nw), p.1 ≠ q.1) (d2 : Dv (Vv V [] (nw ++ nwc)) r b) : TTurn0 g L m s I oI C oC D' oD V b x0 nw r { s with heap := h', toks := tk' } :=
  ⟨h', tk', nwc, rfl, F, N, fun p hp => ⟨lo p hp (I, oI) (by simp), lo p hp (C, oC) (by simp), lo p hp (D', oD) (by simp)⟩, d2⟩
theorem comp_tups0 {α : Type} {env : Env} {elt : Expr} {xn : Str} {scope : Scope} {cl : List (Str × Addr)} {ws : List Value} {wv nn : Nat} {x0 : List (Addr × Obj)} {Q : Value → Shared → Prop} {ok : α → Prop} {δ f : α → D} {src : List α}
    (F : Fr g L s.heap m) (N : News g L s.heap led) (hsub : ∀ p ∈ x0, p ∈ led) (ht : g.get? wv = some (tupOf ws nn)) (hsz : ws.length ≤ 1000) (hws : Dvs (Vv V [] []) ws (src.map δ)) (hok : ∀ x ∈ src, ok x)
    (fin : ∀ s₂ : Shared, (∃ h, s₂ = { s with heap := h }) → ∀ ys nw D' h tk, Fr g L h m → News g L h ((D', LCg.lst ys) :: (x0 ++ nw)) → (∀ p ∈ x0 ++ nw, p.1 ≠ D') → Dvs (Vv V [] nw) ys (src.map f) → Q (.ref D') { s₂ with heap := h, toks := tk })
    (turn : ∀ s₂ : Shared, (∃ h, s₂ = { s with heap := h }) → ∀ v x ys nw I oI C oC D' m₂ h tk (E' : Value → Shared → Prop), Dv (Vv V [] []) v (δ x) → ok x → LCg.NsObj oC m₂ → m₂ xn = some v → Fr g L h m →
      News g L h ((I, oI) :: (C, oC) :: (D', LCg.lst ys) :: (x0 ++ nw)) → ((@Ne Nat I C) ∧ (@Ne Nat I D') ∧ (@Ne Nat C D')) →
      wpAny (model prog w) A (eval elt (compEnvC scope cl C env)) (TTurn0 g L m { s₂ with heap := h, toks := tk } I oI C oC D' (LCg.lst ys) V (f x) x0 nw) E' { s₂ with heap := h, toks := tk }) :
    TupSrc prog w A g L m env elt xn scope cl Q (.ref wv) s := by
  refine comp_tups (α := α) (δ := δ) (f := f) (e := fun _ => []) (ok := ok) (src := src) (x0 := x0) (mo := []) (S := fun _ _ => True) (Ms := []) (V := V) (l := []) (by rw [flat_nil]; simp) anyS F N (by rw [List.nil_append]; exact hsub) ht (List.forall_mem_nil _) (List.forall_mem_nil _) trivial hsz hws hok ?_ ?_ (fun _ _ => List.not_mem_nil)
  · intro s₂ hs ys mo nw D' h tk F N hD c1 c2 c3 c4 _ dy
    rw [nil_of c2, List.nil_append] at N
    exact fin s₂ hs ys nw D' h tk F N c4 dy
  · intro s₂ hs v x ys l' mo nw I oI C oC D' m₂ h tk E' dv hx hC hm F N i1 i2 i3 ne c1 c2 c3 _ _
    have e := nil_of c2
    subst e
    rw [List.nil_append] at N
    refine wpAny_mono (turn s₂ hs v x ys nw I oI C oC D' m₂ h tk E' dv hx hC hm F N ne) (fun y s' q => ?_) fun _ _ e => e
    obtain ⟨h', tk', nw', rfl, F', N', of, d⟩ := q
    exact ⟨h', tk', [], nw', rfl, F', N', of, List.forall_mem_nil _, List.forall_mem_nil _, fun _ _ => List.not_mem_nil, trivial, d⟩
end
mutual
noncomputable def D.ren : D → D
  | .tup ds => renT (rens ds)
  | .none => .none
  | .bool b => .bool b
  | .int i => .int i
  | .str s => .str s
  | .bytes b => .bytes b
noncomputable def rens : List D → List D
  | [] => []
  | d :: r => d.ren :: rens r
end
theorem rens_map : ∀ l : List D, rens l = l.map D.ren
  | [] => by rw [rens.eq_1]; rfl
  | d :: r => by rw [rens.eq_2, List.map_cons, rens_map r]
/-- a tuple of five is a reference -/
noncomputable def five (ds : List D) : Prop := ds.length = 5 → ∃ who a b c, ds = [.str (Str.ofString "ref"), .str who, a, b, c] ∧ who ∈ XS
mutual
noncomputable def D.renOk : D → Prop
  | .tup ds => five ds ∧ ds.length ≤ 1000 ∧ renOks ds
  | .none => True
  | .bool _ => True
  | .int _ => True
  | .str _ => True
  | .bytes _ => True
noncomputable def renOks : List D → Prop
  | [] => True
  | d :: r => d.renOk ∧ renOks r
end
theorem renOks_mem : ∀ {l : List D}, renOks l → ∀ d ∈ l, d.renOk
  | d :: r, h, x, hx => by
    rw [renOks.eq_2] at h
    rcases List.mem_cons.mp hx with rfl | hx
    · exact h.1
    · exact renOks_mem h.2 x hx
theorem hgts_mem : ∀ {l : List D}, ∀ d ∈ l, d.hgt ≤ hgts l
  | d :: r, x, hx => by
    rw [hgts.eq_2]
    rcases List.mem_cons.mp hx with rfl | hx
    · lia
    · have := hgts_mem x hx; lia
theorem five_rens {ds : List D} (h : five ds) (h5 : (rens ds).length = 5) : isRefX (.tup (rens ds)) := by
  rw [rens_map, List.length_map] at h5
  obtain ⟨who, a, b, c, rfl, hw⟩ := h h5
  exact ⟨who, a.ren, b.ren, c.ren, by rw [rens_map]; rfl, hw⟩
theorem five_h5 {ds : List D} (h : five ds) : (D.tup (rens ds)).head5 := fun h5 => by
  obtain ⟨who, a, b, c, e, _⟩ := five_rens h h5
  injection e with e
  exact ⟨_, _, e⟩
theorem renT_no {ds : List D} (h : (D.tup ds).isRef = false) : renT ds = .tup ds := if_neg (fun e => Bool.noConfusion (h.symm.trans e))
theorem rulesOgExr : True := by
  w_top off
  k_with_none
  k_with "spliced" => ((with_reducible show wpAny _ _ (spliced (backTo _ (starEach (_ :: _) _))) _ _ _); k_dflt (refine' args_at ?ogF ?ogk ?ogv ?_; (case ogF => k_asm); (case ogk => rfl); (case ogv => rfl)); k_whole)
  k_with "eval Constant int" => refine int_at ?_
  k_with "eval Constant str" => refine str_at ?_
  k_with "eval Call" => (k_dflt (first | (refine' callK_at ?ogF ?ogX ?ogT ?oge ?ogf ?ogk ?ogg ?ogd ?ogv ?_; (case ogX => k_asm); (case ogT => k_asm); (case oge => k_is); (case ogf => k_is); (case ogg => rfl); (case ogd => rfl); (case ogF => k_asm); (case ogk => rfl); (case ogv => rfl); k_whole) | (refine' callB_at ?ogF ?ogX ?ogT ?oge ?ogb ?ogi ?ogn ?ogk ?ogg ?ogd ?ogv ?_; (case ogX => k_asm); (case ogT => k_asm); (case oge => k_is); (case ogb => boot_fast); (case ogi => rfl); (case ogn => decide); (case ogg => rfl); (case ogd => rfl); (case ogF => k_asm); (case ogk => rfl); (case ogv => rfl); k_whole)))
  k_with "eval Subscript" => (k_dflt (refine' sub_at ?ogF ?ogk ?ogv ?ogw ?_; (case ogF => k_asm); (case ogk => rfl); (case ogv => rfl); (case ogw => rfl)); k_whole)
  k_with "ite" => (k_closed; k_dflt (first | refine iteT rfl ?_ | refine iteF rfl ?_))
  k_with "isTrue Compare" => (k_dflt (refine' cmp_at ?ogF ?ogk ?ogv ?ogw ?ogb ?_; (case ogF => k_asm); (case ogk => rfl); (case ogv => rfl); (case ogw => rfl); (case ogb => rfl)); k_whole)
  k_with "execs cons" => ((with_reducible refine wpAny_execs_cons ?_); (try dsimp only); (try clear qk ek); (try k_fold))
  k_with "og_mem" => first | with_reducible assumption | (refine memI ?_; with_reducible assumption) | (refine List.mem_append_right _ ?_; k_mem) | (refine List.mem_append_left _ ?_; k_mem)
  k_with "og_neo" => first | exact neLt (by assumption) (by k_mem) | exact neGt (by assumption) (by k_mem) | (refine neN ?_; (try dsimp only); lia)
  k_with "og_ne" => first | assumption | exact Ne.symm (by assumption) | (k_extra "og_neo")
  k_with "og_all" => first | assumption | exact neAll (by assumption) (fun _ h => h) | exact neAll (by assumption) (by intro p hp; k_mem) | exact off1 (by assumption) (by assumption) | exact LCg_lt (by assumption) | exact offL (by assumption) (by k_mem) | exact off_tup (by assumption) (by assumption) (by intro p hp; k_mem) (by k_mem) | (refine List.forall_mem_append.mpr ⟨?_, ?_⟩ <;> k_all) | exact off1 (by assumption) (by lia)
  k_with "og_d" => first | exact dlt hd rfl rfl | exact dlt0 hd rfl rfl | exact dle hd rfl rfl | exact dle0 hd rfl rfl | exact dlq hd rfl rfl | exact dlq0 hd rfl rfl | exact dmk hd rfl | exact drk hd rfl | exact drk0 hd rfl | (simp only [depth_deeper, depth_in1]; lia)
  k_with "og_u" => first | exact dlt hu rfl rfl | exact dlt0 hu rfl rfl | exact dle hu rfl rfl | exact dle0 hu rfl rfl | exact dlq hu rfl rfl | exact dlq0 hu rfl rfl | exact umk hu rfl | exact urk hu rfl | exact urk0 hu rfl | (simp only [units_deeper, units_in1]; lia)
  k_with "og_memb" => (repeat' (first | exact List.forall_mem_nil _ | (intro p hp; k_mem; done) | refine List.forall_mem_append.mpr ⟨?_, ?_⟩ | refine List.forall_mem_cons.mpr ⟨?_, ?_⟩ | k_mem))
  k_with "og_klt" => skip
  k_with "newTuple" => (k_dflt (refine' newtup_le ?ogF ?ogN ?_ ?ogz; (case ogF => k_asm); (case ogN => k_asm); (case ogz => kmk_size)); intro _ _ ledk _ _ l1; (try skip); (try k_sweep); (try (revert l1; intros)))
  k_with "eval Tuple" => (k_dflt (refine' tup_le ?ogF ?ogN ?ogk ?ogv ?ogz ?_; (case ogN => k_asm); (case ogF => k_asm); (case ogk => rfl); (case ogv => rfl); (case ogz => kmk_size)); k_whole; intro _ _ ledk _ _ l1; (try skip); (try k_sweep); (try (revert l1; intros)))
  k_with "storeName" => (k_dflt (refine' store_le ?ogF ?ogN ?_ ?oga ?ogb; (case ogF => k_asm); (case ogN => k_asm); (case oga => rfl); (case ogb => rfl)); k_whole; intro _ mk _ _; (try k_sweep))
  k_with "call builtin:list.append" => ((with_reducible show wpAny _ _ (call (Value.builtin _) [Value.ref _, _]) _ _ _); k_dflt (refine' append_le ?ogF ?ogN ?ogU ?_ ?ogz; (case ogF => k_asm); (case ogN => k_asm); (case ogU => k_upd); (case ogz => ((try simp only [List.length_append, List.length_cons, List.length_nil]); lia))); k_whole; intro _ ledk _ _; (try k_sweep))
  k_with "call builtin:isinstance" => ((with_reducible show wpAny _ _ (call _ [Value.ref _, Value.type _]) _ _ _); k_dflt (refine' isi_tup ?ogF ?ogX ?ogg ?_; (case ogF => k_asm); (case ogg => with_reducible assumption); (case ogX => assumption); k_whole); intro _; (try dsimp only))
  k_with "eval Name" => ((with_reducible show wpAny _ _ (eval (Expr.Name _ _) (envX _ _ _ _ _ _)) _ _ _); k_dflt (refine' nameX_Fg ?ogN ?ogc ?ogm ?ogd ?_ ?oga ?ogb; (case oga => rfl); (case ogb => rfl); (case ogN => k_asm); (case ogc => rfl); (case ogm => assumption); (case ogd => assumption)); k_whole)
  k_with "eval Name" => ((with_reducible show wpAny _ _ (eval (Expr.Name _ _) (compEnvC _ _ _ _)) _ _ _); k_dflt (refine' compFree_g ?ogN ?ogc ?ogm ?ogd ?_ ?oga ?ogb; (case oga => rfl); (case ogb => rfl); (case ogN => k_asm); (case ogc => rfl); (case ogm => assumption); (case ogd => assumption)); k_whole)
  k_with "FnAt" => (exact fn_g (by k_asm) (by assumption))
  k_with "callWith ref" => (k_dflt (refine' callWith_F ?ogk1 ?_; (case ogk1 => exact fn_g (by k_asm) (by assumption)); k_whole))
  k_with "eval ListComp" => (k_dflt (refine' comp_tup ?ogF0 ?ogh1 ?ogh2 ?ogh3 ?ogh4 ?ogh5 ?ogh6 ?_ ?oghs; (case ogF0 => k_asm); (case ogh1 => exact rfl); (case ogh2 => decide); (case ogh3 => exact rfl); (case ogh4 => decide); (case ogh5 => exact rfl); (case ogh6 => k_asm); (case oghs => (intro _; rfl)); k_whole))
  k_with "call ref" => (k_dflt (refine' call_isref ?ogB ?ogF ?ogN ?oghv ?oghn ?ogh5 ?oghb ?oghl ?ogA ?ogd ?ogu ?_; (case ogB => assumption); (case ogF => k_asm); (case ogN => k_asm); (case oghv => first | with_reducible assumption | exact dv_tL (n := 0) (by with_reducible assumption)); (case ogh5 => assumption); (case oghb => assumption); (case oghl => assumption); (case oghn => (k_extra "og_memb")); (case ogA => k_asm); (case ogd => (k_extra "og_d")); (case ogu => (k_extra "og_u")); k_whole); intro h' tk' F' N'; (try dsimp only); (try k_sweep); (try (revert h' tk' F' N'; intros)))
  k_with "call ref" => (k_dflt (refine' call_to0 ?ogC ?oghx ?oghvals ?ogB ?ogF ?ogN ?oghg1 ?oghV ?oghd ?oghim ?ogA ?ogdp ?ogu ?_; (case ogC => assumption); (case oghvals => exact rfl); (case oghd => first | with_reducible assumption | exact up0 (by with_reducible assumption) | exact dv_tV (n := 0) (by with_reducible assumption)); (case oghx => assumption); (case ogB => assumption); (case ogF => k_asm); (case ogN => k_asm); (case oghg1 => assumption); (case oghV => assumption); (case oghim => (k_extra "og_memb")); (case ogA => k_asm); (case ogdp => (k_extra "og_d")); (case ogu => (k_extra "og_u")); k_whole); intro h' tk' r nw F' N' c3 d'; (try dsimp only); (try simp only [List.cons_append, List.nil_append, List.append_assoc] at N' d'); (try k_sweep); (try (revert h' tk' r nw F' N' c3 d'; intros)))
  trivial
theorem exr_step {prog : Program} {w : World} {n K U : Nat} (hK : 13 ≤ K) (hU : 30 ≤ U)
    (IH : PureTo prog w 70 (fun v => [v, .ref 104]) (fun d : D => d.renOk ∧ d.hgt < n) (fun d => d) D.ren K U) :
    PureTo prog w 70 (fun v => [v, .ref 104]) (fun d : D => d.renOk ∧ d.hgt < n + 1) (fun d => d) D.ren (K + 3) (U + 12) := by
  intro A s G R v d l V hok B kp hMs hV _ hv hbd hA hd hu h
  have REN : PureTo prog w 104 (fun v => [v]) isRefX (fun d => d) renR 3 10 := renamed_spec
  replace hv : Dv V v d := hv
  have hrm : A.depth < recursionLimit := Nat.lt_trans (by first | exact Nat.lt_of_le_of_lt (Nat.le_add_right _ _) (Nat.lt_trans hd (by decide)) | exact Nat.lt_of_le_of_lt hd (by decide) | lia) (show 800 < recursionLimit by decide)
  replace hok : d.renOk ∧ d.hgt < n + 1 := hok
  refine' enterC (binds := [(Str.ofString "thing", v), (Str.ofString "change", .ref 104)]) B kp [] ?_ ?_ ?_ hrm ?_ ?_ ?_ ?_ ?_ ?_ ?_
  any_goals k_is
  any_goals (exact BindsTo.of_eq rfl)
  any_goals (first | rfl | decide)
  · exact List.forall_mem_nil _
  intro g h₁ tk' cells hg1 hg2 F N Y l1 B'
  obtain ⟨o1, hcs, c1⟩ := CellsAre.one Y
  subst hcs
  replace c1 : o1.data = .cell (some (.ref 104)) := c1
  try simp only [List.cons_append, List.nil_append] at N
  have X := B'.X
  obtain ⟨p, loose, mean, mg, mb, Tp⟩ := B'.T
  have gl : s.heap.objs.size < s.heap.objs.size + 1 := Nat.lt_succ_self _
  have fin : ∀ {h' : Heap} {tk' : Nat} {r : Value} {m' : Str → Option Value} {led nw : List (Addr × Obj)} , Fr g s.heap.objs.size h' m' → News g s.heap.objs.size h' led → (∀ p ∈ nw, p ∈ led) → Dv (Vv V [] nw) r d.ren → R (.ok (.ret r)) { s with heap := h', toks := tk' } := fun F N hs dv =>
    h _ _ _ (kp_fin hg1 F (List.forall_mem_nil _) (Nat.le_refl _)) trivial (dv.sub (aft_end (Ms := []) hg1 F N hV (List.forall_mem_nil _) hs))
  clear kp B hg2 hrm Y h
  cases hv with
  | none =>
    k_steps
    all_goals (try dsimp only)
    refine fin (nw := []) (by k_asm) (by k_asm) (List.forall_mem_nil _) ?_
    rw [D.ren.eq_2]; exact .none
  | bool b =>
    k_steps
    all_goals (try dsimp only)
    refine fin (nw := []) (by k_asm) (by k_asm) (List.forall_mem_nil _) ?_
    rw [D.ren.eq_3]; exact .bool b
  | int i u =>
    k_steps
    all_goals (try dsimp only)
    refine fin (nw := []) (by k_asm) (by k_asm) (List.forall_mem_nil _) ?_
    rw [D.ren.eq_4]; exact .int i u
  | str x u =>
    k_steps
    all_goals (try dsimp only)
    refine fin (nw := []) (by k_asm) (by k_asm) (List.forall_mem_nil _) ?_
    rw [D.ren.eq_5]; exact .str x u
  | bytes b u =>
    k_steps
    all_goals (try dsimp only)
    refine fin (nw := []) (by k_asm) (by k_asm) (List.forall_mem_nil _) ?_
    rw [D.ren.eq_6]; exact .bytes b u
  | @tup a vs n9 ds hp hs =>
    have ga : g.get? a = some (tupOf vs n9) := hg1 _ _ (hV _ _ hp) List.not_mem_nil
    have hvl := hs.length
    obtain ⟨hok1, hok2⟩ := hok
    rw [D.renOk.eq_1] at hok1
    rw [D.hgt.eq_6] at hok2
    have hds := hok1.2.1
    have hall : ∀ x ∈ ds, x.renOk ∧ x.hgt < n := fun x hx => ⟨renOks_mem hok1.2.2 x hx, by have := hgts_mem x hx; lia⟩
    have h5 := five_h5 hok1.1
    have hlr : ∀ es, D.tup (rens ds) = .tup es → es.length ≤ 5000 := fun es e => by
      injection e with e
      rw [← e, rens_map, List.length_map]; lia
    have hX : (D.tup (rens ds)).isRef = true → isRefX (.tup (rens ds)) := fun e => five_rens hok1.1 (isRef_len e)
    rw [D.ren.eq_1] at fin
    clear hbd hp
    k_steps
    all_goals (try dsimp only)
    refine' comp_tups0 (α := D) (δ := fun d => d) (f := D.ren) (ok := fun d => d.renOk ∧ d.hgt < n) (src := ds) (x0 := [(s.heap.objs.size + 1, o1)]) (V := V) ?cF ?cN ?hsub ga ?hsz ?hws hall ?fin9 ?turn9
    case cF => k_asm
    case cN => k_asm
    case hsub => exact (by (k_extra "og_memb"))
    case hsz => lia
    case hws => rw [List.map_id']; exact ups_v hs
    case fin9 =>
      clear N F
      intro s₂ hs₂ ys nw D' h tk F N hx0 dy
      obtain ⟨h9, rfl⟩ := hs₂
      try simp only [List.cons_append, List.nil_append] at N
      have hyl := dy.length
      rw [List.length_map] at hyl
      replace hyl : ys.length ≤ 1000 := by lia
      rw [← rens_map] at dy
      have dyg : Dvs (Lv g nw) ys (rens ds) := dy.mono fun a vs n q => q.imp (fun q => hg1 _ _ (hV _ _ q.1) List.not_mem_nil) id
      cases hb : (D.tup (rens ds)).isRef with
      | false =>
        rw [renT_no hb] at fin
        try dsimp only
        k_steps
        all_goals (try dsimp only)
        exact fin (by k_asm) (by k_asm) (by (k_extra "og_memb")) (dv_tV (n := 0) dy)
      | true =>
        have hX := hX hb
        try dsimp only
        k_steps
        all_goals (try dsimp only)
        rename Dv _ _ (renR _) => q
        exact fin (by k_asm) (by k_asm) (by (k_extra "og_memb")) q
    case turn9 =>
      clear N F
      intro s₂ hs₂ v x ys nw I oI C' oC D' m₂ h tk E' dv hx hC hm F N ne
      obtain ⟨h9, rfl⟩ := hs₂
      try simp only [List.cons_append, List.nil_append] at N
      try dsimp only
      k_steps
      all_goals (try dsimp only)
      refine t_turn0 (x0 := [(s.heap.objs.size + 1, o1)]) (by k_asm) (by k_asm) (by assumption) (Dv.sub (by assumption) (vv_sub fun p hp => List.mem_append_right _ hp))
theorem exr_all {prog : Program} {w : World} : ∀ n, PureTo prog w 70 (fun v => [v, .ref 104]) (fun d : D => d.renOk ∧ d.hgt < n) (fun d => d) D.ren (13 + 3 * n) (30 + 12 * n)
  | 0 => by
    intro hx
    exact absurd hx.2 (Nat.not_lt_zero _)
  | n + 1 => exr_step (Nat.le_add_right _ _) (Nat.le_add_right _ _) (exr_all n)
noncomputable def headMove : List D → Bool
  | .str x :: _ => x == Str.ofString "move"
  | _ => false
mutual
noncomputable def D.bare : D → D
  | .tup ds => if headMove ds = true then .tup [.str (Str.ofString "continue")] else .tup (bares ds)
  | .none => .none
  | .bool b => .bool b
  | .int i => .int i
  | .str s => .str s
  | .bytes b => .bytes b
noncomputable def bares : List D → List D
  | [] => []
  | d :: r => d.bare :: bares r
end
theorem bares_map : ∀ l : List D, bares l = l.map D.bare
  | [] => by rw [bares.eq_1]; rfl
  | d :: r => by rw [bares.eq_2, List.map_cons, bares_map r]
mutual
noncomputable def D.bareOk : D → Prop
  | .tup ds => (∀ b r, ds ≠ .bytes b :: r) ∧ ds.length ≤ 1000 ∧ bareOks ds
  | .none => True
  | .bool _ => True
  | .int _ => True
  | .str _ => True
  | .bytes _ => True
noncomputable def bareOks : List D → Prop
  | [] => True
  | d :: r => d.bareOk ∧ bareOks r
end
theorem bareOks_mem : ∀ {l : List D}, bareOks l → ∀ d ∈ l, d.bareOk
  | d :: r, h, x, hx => by
    rw [bareOks.eq_2] at h
    rcases List.mem_cons.mp hx with rfl | hx
    · exact h.1
    · exact bareOks_mem h.2 x hx
section
variable {prog : Program} {w : World} {A : Around} {E : Value → Shared → Prop} {s : Shared} {g : Heap} {L a n u : Nat} {m : Str → Option Value} {vs : List Value} {x : Value} {Q : Value → Shared → Prop}
theorem sub_head {value slice : Expr} (F : Fr g L s.heap m) (hg : g.get? a = some (tupOf (x :: vs) n)) (h : Q x s)
    (hs : subscripted slice false (.ref a) (.int 0 u) = operate [.ref a, .int 0 u] (getItem (.ref a) (.int 0 u))) : wpAny (model prog w) A (subscriptTail value slice (.ref a) (.int 0 u)) Q E s :=
  sub_g (k := 0) (j := 0) F hg (by decide) (by decide) (by unfold seqIndex?; simp) rfl h hs
theorem cmp_head {v : Value} {d : D} {r : List D} {b : Bool} {t : Tok} (hv : Dv (Hv g) v d) (F : Fr g L s.heap m) (hb : headMove (d :: r) = b) (hn : ∀ b r', d :: r ≠ .bytes b :: r') (hu : A.units < 5000) (h : Q (.bool b) s) :
    wpAny (model prog w) A (compareOp .Eq v (.str (Str.ofString "move") t)) Q E s := by
  subst hb
  cases hv with
  | none => exact RcAt.none_str _ _ prog w E Q h
  | bool c => exact RcAt.bool_str _ _ _ prog w E Q h
  | int i u => exact RcAt.int_str _ _ _ _ prog w E Q h
  | str y u => exact RcAt.str_str _ _ _ _ prog w E Q h
  | bytes c u => exact absurd rfl (hn c r)
  | tup p q => exact RcAt.tuple_str _ _ ⟨_, F.keep _ _ p, rfl, _, rfl⟩ (by show _ < 9900; lia) prog w E Q h
end
theorem rulesOgBare : True := by
  w_top off
  k_with_none
  k_with "spliced" => ((with_reducible show wpAny _ _ (spliced (backTo _ (starEach (_ :: _) _))) _ _ _); k_dflt (refine' args_at ?ogF ?ogk ?ogv ?_; (case ogF => k_asm); (case ogk => rfl); (case ogv => rfl)); k_whole)
  k_with "eval Constant int" => refine int_at ?_
  k_with "eval Constant str" => refine str_at ?_
  k_with "eval Call" => (k_dflt (first | (refine' callK_at ?ogF ?ogX ?ogT ?oge ?ogf ?ogk ?ogg ?ogd ?ogv ?_; (case ogX => k_asm); (case ogT => k_asm); (case oge => k_is); (case ogf => k_is); (case ogg => rfl); (case ogd => rfl); (case ogF => k_asm); (case ogk => rfl); (case ogv => rfl); k_whole) | (refine' callB_at ?ogF ?ogX ?ogT ?oge ?ogb ?ogi ?ogn ?ogk ?ogg ?ogd ?ogv ?_; (case ogX => k_asm); (case ogT => k_asm); (case oge => k_is); (case ogb => boot_fast); (case ogi => rfl); (case ogn => decide); (case ogg => rfl); (case ogd => rfl); (case ogF => k_asm); (case ogk => rfl); (case ogv => rfl); k_whole)))
  k_with "eval Subscript" => (k_dflt (refine' sub_at ?ogF ?ogk ?ogv ?ogw ?_; (case ogF => k_asm); (case ogk => rfl); (case ogv => rfl); (case ogw => rfl)); k_whole)
  k_with "ite" => (k_closed; k_dflt (first | refine iteT rfl ?_ | refine iteF rfl ?_))
  k_with "isTrue Compare" => (k_dflt (refine' cmp_at ?ogF ?ogk ?ogv ?ogw ?ogb ?_; (case ogF => k_asm); (case ogk => rfl); (case ogv => rfl); (case ogw => rfl); (case ogb => rfl)); k_whole)
  k_with "execs cons" => ((with_reducible refine wpAny_execs_cons ?_); (try dsimp only); (try clear qk ek); (try k_fold))
  k_with "og_mem" => first | with_reducible assumption | (refine memI ?_; with_reducible assumption) | (refine List.mem_append_right _ ?_; k_mem) | (refine List.mem_append_left _ ?_; k_mem)
  k_with "og_neo" => first | exact neLt (by assumption) (by k_mem) | exact neGt (by assumption) (by k_mem) | (refine neN ?_; (try dsimp only); lia)
  k_with "og_ne" => first | assumption | exact Ne.symm (by assumption) | (k_extra "og_neo")
  k_with "og_all" => first | assumption | exact neAll (by assumption) (fun _ h => h) | exact neAll (by assumption) (by intro p hp; k_mem) | exact off1 (by assumption) (by assumption) | exact LCg_lt (by assumption) | exact offL (by assumption) (by k_mem) | exact off_tup (by assumption) (by assumption) (by intro p hp; k_mem) (by k_mem) | (refine List.forall_mem_append.mpr ⟨?_, ?_⟩ <;> k_all) | exact off1 (by assumption) (by lia)
  k_with "og_d" => first | exact dlt hd rfl rfl | exact dlt0 hd rfl rfl | exact dle hd rfl rfl | exact dle0 hd rfl rfl | exact dlq hd rfl rfl | exact dlq0 hd rfl rfl | exact dmk hd rfl | exact drk hd rfl | exact drk0 hd rfl | (simp only [depth_deeper, depth_in1]; lia)
  k_with "og_u" => first | exact dlt hu rfl rfl | exact dlt0 hu rfl rfl | exact dle hu rfl rfl | exact dle0 hu rfl rfl | exact dlq hu rfl rfl | exact dlq0 hu rfl rfl | exact umk hu rfl | exact urk hu rfl | exact urk0 hu rfl | (simp only [units_deeper, units_in1]; lia)
  k_with "og_memb" => (repeat' (first | exact List.forall_mem_nil _ | (intro p hp; k_mem; done) | refine List.forall_mem_append.mpr ⟨?_, ?_⟩ | refine List.forall_mem_cons.mpr ⟨?_, ?_⟩ | k_mem))
  k_with "og_peel" => ((try dsimp +zetaDelta only [List.nil_append, List.cons_append] at *); (repeat (first | clear ledk | clear mk | clear qk | clear ek)))
  k_with "og_klt" => skip
  k_with "newTuple" => (k_dflt (refine' newtup_le ?ogF ?ogN ?_ ?ogz; (case ogF => k_asm); (case ogN => k_asm); (case ogz => kmk_size)); intro _ _ ledk _ _ l1; (try skip); (try k_sweep); (try (revert l1; intros)))
  k_with "eval Tuple" => (k_dflt (refine' tup_le ?ogF ?ogN ?ogk ?ogv ?ogz ?_; (case ogN => k_asm); (case ogF => k_asm); (case ogk => rfl); (case ogv => rfl); (case ogz => kmk_size)); k_whole; intro _ _ ledk _ _ l1; (try skip); (try k_sweep); (try (revert l1; intros)))
  k_with "storeName" => (k_dflt (refine' store_le ?ogF ?ogN ?_ ?oga ?ogb; (case ogF => k_asm); (case ogN => k_asm); (case oga => rfl); (case ogb => rfl)); k_whole; intro _ mk _ _; (try k_sweep))
  k_with "call builtin:list.append" => ((with_reducible show wpAny _ _ (call (Value.builtin _) [Value.ref _, _]) _ _ _); k_dflt (refine' append_le ?ogF ?ogN ?ogU ?_ ?ogz; (case ogF => k_asm); (case ogN => k_asm); (case ogU => k_upd); (case ogz => ((try simp only [List.length_append, List.length_cons, List.length_nil]); lia))); k_whole; intro _ ledk _ _; (try k_sweep))
  k_with "call builtin:isinstance" => ((with_reducible show wpAny _ _ (call _ [Value.ref _, Value.type _]) _ _ _); k_dflt (refine' isi_tup ?ogF ?ogX ?ogg ?_; (case ogF => k_asm); (case ogg => with_reducible assumption); (case ogX => assumption); k_whole); intro _; (try dsimp only))
  k_with "eval Name" => ((with_reducible show wpAny _ _ (eval (Expr.Name _ _) (envX _ _ _ _ _ _)) _ _ _); k_dflt (refine' nameX_Fg ?ogN ?ogc ?ogm ?ogd ?_ ?oga ?ogb; (case oga => rfl); (case ogb => rfl); (case ogN => k_asm); (case ogc => rfl); (case ogm => assumption); (case ogd => assumption)); k_whole)
  k_with "eval Name" => ((with_reducible show wpAny _ _ (eval (Expr.Name _ _) (compEnvC _ _ _ _)) _ _ _); k_dflt (refine' compFree_g ?ogN ?ogc ?ogm ?ogd ?_ ?oga ?ogb; (case oga => rfl); (case ogb => rfl); (case ogN => k_asm); (case ogc => rfl); (case ogm => assumption); (case ogd => assumption)); k_whole)
  k_with "FnAt" => (exact fn_g (by k_asm) (by assumption))
  k_with "callWith ref" => (k_dflt (refine' callWith_F ?ogk1 ?_; (case ogk1 => exact fn_g (by k_asm) (by assumption)); k_whole))
  k_with "eval ListComp" => (k_dflt (refine' comp_tup ?ogF0 ?ogh1 ?ogh2 ?ogh3 ?ogh4 ?ogh5 ?ogh6 ?_ ?oghs; (case ogF0 => k_asm); (case ogh1 => exact rfl); (case ogh2 => decide); (case ogh3 => exact rfl); (case ogh4 => decide); (case ogh5 => exact rfl); (case ogh6 => k_asm); (case oghs => (intro _; rfl)); k_whole))
  k_with "call ref" => (k_dflt (refine' call_to0 ?ogC ?oghx ?oghvals ?ogB ?ogF ?ogN ?oghg1 ?oghV ?oghd ?oghim ?ogA ?ogdp ?ogu ?_; (case ogC => assumption); (case oghvals => exact rfl); (case oghd => first | with_reducible assumption | exact up0 (by with_reducible assumption) | exact dv_tV (n := 0) (by with_reducible assumption)); (case oghx => assumption); (case ogB => assumption); (case ogF => k_asm); (case ogN => k_asm); (case oghg1 => assumption); (case oghV => assumption); (case oghim => (k_extra "og_memb")); (case ogA => k_asm); (case ogdp => (k_extra "og_d")); (case ogu => (k_extra "og_u")); k_whole); intro h' tk' r nw F' N' c3 d'; (try dsimp only); (try simp only [List.cons_append, List.nil_append, List.append_assoc] at N' d'); (try k_sweep); (try (revert h' tk' r nw F' N' c3 d'; intros)))
  k_with "call builtin:len" => (k_dflt (refine' len_tup ?ogF ?ogg ?ogz ?_; (case ogF => k_asm); (case ogg => with_reducible assumption); (case ogz => ((try simp only [List.length_cons, List.length_nil]); lia)); k_whole); intro _ _; (try dsimp only))
  k_with "subscriptTail" => ((with_reducible show wpAny _ _ (subscriptTail _ _ (Value.ref _) (Value.int _ _)) _ _ _); k_dflt (refine' sub_head ?ogk1 ?ogk2 ?_ ?ogk7; (case ogk1 => k_asm); (case ogk2 => with_reducible assumption); (case ogk7 => with_unfolding_all rfl); k_whole))
  k_with "compareOp Eq" => (k_dflt (refine' cmp_head ?ogk1 ?ogk2 ?ogk3 ?ogk4 ?ogk5 ?_; (case ogk1 => with_reducible assumption); (case ogk2 => k_asm); (case ogk3 => assumption); (case ogk4 => assumption); (case ogk5 => (k_extra "og_u")); k_whole))
  trivial
theorem bare_step {prog : Program} {w : World} {n K U : Nat}
    (IH : PureTo prog w 116 (fun v => [v]) (fun d : D => d.bareOk ∧ d.hgt < n) (fun d => d) D.bare K U) :
    PureTo prog w 116 (fun v => [v]) (fun d : D => d.bareOk ∧ d.hgt < n + 1) (fun d => d) D.bare (K + 3) (U + 12) := by
  intro A s G R v d l V hok B kp hMs hV _ hv hbd hA hd hu h
  replace hv : Dv V v d := hv
  have hrm : A.depth < recursionLimit := Nat.lt_trans (by first | exact Nat.lt_of_le_of_lt (Nat.le_add_right _ _) (Nat.lt_trans hd (by decide)) | exact Nat.lt_of_le_of_lt hd (by decide) | lia) (show 800 < recursionLimit by decide)
  replace hok : d.bareOk ∧ d.hgt < n + 1 := hok
  refine' enter (binds := [(Str.ofString "tree", v)]) B kp [] ?_ ?_ ?_ hrm ?_ ?_ ?_ ?_ ?_ ?_ ?_
  any_goals k_is
  any_goals (exact BindsTo.of_eq rfl)
  any_goals (exact locs rfl)
  any_goals (first | rfl | decide)
  · exact List.forall_mem_nil _
  intro g h₁ hg1 hg2 F N B'
  have X := B'.X
  obtain ⟨p, loose, mean, mg, mb, Tp⟩ := B'.T
  have fin : ∀ {h' : Heap} {tk' : Nat} {r : Value} {m' : Str → Option Value} {led nw : List (Addr × Obj)} , Fr g s.heap.objs.size h' m' → News g s.heap.objs.size h' led → (∀ p ∈ nw, p ∈ led) → Dv (Vv V [] nw) r d.bare → R (.ok (.ret r)) { s with heap := h', toks := tk' } := fun F N hs dv =>
    h _ _ _ (kp_fin hg1 F (List.forall_mem_nil _) (Nat.le_refl _)) trivial (dv.sub (aft_end (Ms := []) hg1 F N hV (List.forall_mem_nil _) hs))
  clear kp B hg2 hrm h
  cases hv with
  | none =>
    k_steps
    all_goals (try dsimp only)
    refine fin (nw := []) (by k_asm) (by k_asm) (List.forall_mem_nil _) ?_
    rw [D.bare.eq_2]; exact .none
  | bool b =>
    k_steps
    all_goals (try dsimp only)
    refine fin (nw := []) (by k_asm) (by k_asm) (List.forall_mem_nil _) ?_
    rw [D.bare.eq_3]; exact .bool b
  | int i u =>
    k_steps
    all_goals (try dsimp only)
    refine fin (nw := []) (by k_asm) (by k_asm) (List.forall_mem_nil _) ?_
    rw [D.bare.eq_4]; exact .int i u
  | str x u =>
    k_steps
    all_goals (try dsimp only)
    refine fin (nw := []) (by k_asm) (by k_asm) (List.forall_mem_nil _) ?_
    rw [D.bare.eq_5]; exact .str x u
  | bytes b u =>
    k_steps
    all_goals (try dsimp only)
    refine fin (nw := []) (by k_asm) (by k_asm) (List.forall_mem_nil _) ?_
    rw [D.bare.eq_6]; exact .bytes b u
  | @tup a vs n9 ds hp hs =>
    have ga : g.get? a = some (tupOf vs n9) := hg1 _ _ (hV _ _ hp) List.not_mem_nil
    have hvl := hs.length
    obtain ⟨hok1, hok2⟩ := hok
    rw [D.bareOk.eq_1] at hok1
    rw [D.hgt.eq_6] at hok2
    have hds := hok1.2.1
    have hall : ∀ x ∈ ds, x.bareOk ∧ x.hgt < n := fun x hx => ⟨bareOks_mem hok1.2.2 x hx, by have := hgts_mem x hx; lia⟩
    rw [D.bare.eq_1] at fin
    have hnb := hok1.1
    clear hbd hp hok1 hok2
    have hs9 := hs
    cases hs with
    | nil =>
      rw [if_neg (show ¬ headMove [] = true from nofun)] at fin
      k_steps
      all_goals (try dsimp only)
      refine' comp_tups0 (α := D) (δ := fun d => d) (f := D.bare) (ok := fun d => d.bareOk ∧ d.hgt < n) (src := []) (x0 := []) (V := V) ?cF1 ?cN1 ?hsub1 ga ?hsz1 ?hws1 hall ?fin1 ?turn1
      case cF1 => k_asm
      case cN1 => k_asm
      case hsub1 => exact List.forall_mem_nil _
      case hsz1 => simp
      case hws1 => rw [List.map_id']; exact ups_v .nil
      case fin1 =>
        clear N F
        intro s₂ hs₂ ys nw D' h tk F N hx0 dy
        obtain ⟨h9, rfl⟩ := hs₂
        simp only [List.nil_append] at N
        have hyl := dy.length
        rw [List.length_map] at hyl
        try simp only [List.length_cons, List.length_nil] at hyl
        replace hyl : ys.length ≤ 1000 := by lia
        rw [← bares_map] at dy
        try dsimp only
        k_steps
        all_goals (try dsimp only)
        exact fin (by k_asm) (by k_asm) (by (k_extra "og_memb")) (dv_tV (n := 0) dy)
      case turn1 =>
        clear N F
        intro s₂ hs₂ v x ys nw I oI C' oC D' m₂ h tk E' dv hx hC hm F N ne
        obtain ⟨h9, rfl⟩ := hs₂
        simp only [List.nil_append] at N
        try dsimp only
        k_steps
        all_goals (try dsimp only)
        refine t_turn0 (x0 := []) (by k_asm) (by k_asm) (by assumption) (Dv.sub (by assumption) (vv_sub fun p hp => List.mem_append_right _ hp))
    | @cons v0 vs d0 ds hv0 hs =>
      simp only [List.length_cons] at hvl hds
      have hg0 : Dv (Hv g) v0 d0 := hv0.mono fun a vs n q => hg1 _ _ (hV _ _ q) List.not_mem_nil
      cases hb : headMove (d0 :: ds) with
      | true =>
        rw [if_pos hb] at fin
        k_steps
        all_goals (try dsimp only)
        · k_extra "og_peel"
          rename Fr _ _ _ _ => F9
          rename News _ _ _ _ => N9
          exact fin F9 N9 (fun p hp => hp) (.tup (n := 0) (.inr (.head _)) (.cons (.str (Str.ofString "continue") _) .nil))
        · exfalso; rename_i q; first | lia | (simp at q; done) | (simp at q; lia)
      | false =>
        rw [if_neg (by rw [hb]; exact Bool.false_ne_true)] at fin
        k_steps
        all_goals (try dsimp only)
        · skip
          refine' comp_tups0 (α := D) (δ := fun d => d) (f := D.bare) (ok := fun d => d.bareOk ∧ d.hgt < n) (src := (d0 :: ds)) (x0 := []) (V := V) ?cF2 ?cN2 ?hsub2 ga ?hsz2 ?hws2 hall ?fin2 ?turn2
          case cF2 => k_asm
          case cN2 => k_asm
          case hsub2 => exact List.forall_mem_nil _
          case hsz2 => simp only [List.length_cons]; lia
          case hws2 => rw [List.map_id']; exact ups_v hs9
          case fin2 =>
            clear N F
            intro s₂ hs₂ ys nw D' h tk F N hx0 dy
            obtain ⟨h9, rfl⟩ := hs₂
            simp only [List.nil_append] at N
            have hyl := dy.length
            rw [List.length_map] at hyl
            try simp only [List.length_cons, List.length_nil] at hyl
            replace hyl : ys.length ≤ 1000 := by lia
            rw [← bares_map] at dy
            try dsimp only
            k_steps
            all_goals (try dsimp only)
            exact fin (by k_asm) (by k_asm) (by (k_extra "og_memb")) (dv_tV (n := 0) dy)
          case turn2 =>
            clear N F
            intro s₂ hs₂ v x ys nw I oI C' oC D' m₂ h tk E' dv hx hC hm F N ne
            obtain ⟨h9, rfl⟩ := hs₂
            simp only [List.nil_append] at N
            try dsimp only
            k_steps
            all_goals (try dsimp only)
            refine t_turn0 (x0 := []) (by k_asm) (by k_asm) (by assumption) (Dv.sub (by assumption) (vv_sub fun p hp => List.mem_append_right _ hp))
        · exfalso; rename_i q; first | lia | (simp at q; done) | (simp at q; lia)
theorem bare_all {prog : Program} {w : World} : ∀ n, PureTo prog w 116 (fun v => [v]) (fun d : D => d.bareOk ∧ d.hgt < n) (fun d => d) D.bare (3 * n) (30 + 12 * n)
  | 0 => by
    intro hx
    exact absurd hx.2 (Nat.not_lt_zero _)
  | n + 1 => bare_step (bare_all n)
open LCg
section
variable {prog : Program} {w : World} {A : Around}
theorem loop_pairD {kx vx iter : Expr} {elts : List Expr} {x1} {tp : Pos} {scope : Scope} {pos : Pos} {it : Value} {D : Addr} {env : Env} {R : Result → Shared → Prop} {s : Shared} (I : Nat → Shared → Prop)
    (turn : ∀ n s, I n s → wpAny (model prog w) A (pyNext it) (fun r s₁ => match r with
      | none => R (.ok .next) s₁
      | some v => wpAny (model prog w) A (letOwnedTupleGo (.Tuple elts x1 tp) it v) (fun _ s₁' => wpAny (model prog w) A (assign (.Tuple elts x1 tp) env v) (fun _ s₂ =>
          wpAny (model prog w) A (eval kx env) (fun kv s₄ => wpAny (model prog w) A (eval vx env) (fun vv s₅ =>
              wpAny (model prog w) A (dictSet D kv vv) (fun _ s₆ => ∃ m, m < n ∧ I m s₆) (notedBy (model prog w) A env fun e s' => R (.error e) s') s₅) (notedBy (model prog w) A env fun e s' => R (.error e) s') s₄) (notedBy (model prog w) A env fun e s' => R (.error e) s') s₂)
          (notedBy (model prog w) A env fun e s' => R (.error e) s') s₁') (notedBy (model prog w) A env fun e s' => R (.error e) s') s₁) (notedBy (model prog w) A env fun e s' => R (.error e) s') s)
    (n : Nat) (h : I n s) : codeAny (model prog w) A (.compLoop (.DictComp kx vx [⟨.Tuple elts x1 tp, iter, [], 0⟩] scope pos) 0 it (.ref D) env) R s := by
  refine codeAny_loop rfl I (fun n s hI => ?_) n h
  show wpAny _ A ((compTurn (.DictComp kx vx [⟨.Tuple elts x1 tp, iter, [], 0⟩] scope pos) 0 it (.ref D) env).onRaise (fun x => do noteFrame x env; theTreesLotGoes x)) _ _ s
  refine wpAny_noted ?_
  rw [compTurn_dict]
  refine wpAny_bind (wpAny_standAt (wpAny_bind (wpAny_mono (turn n s hI) (fun r s₁ h₁ => ?_) fun _ _ h' => h')))
  cases r with
  | none => exact wpAny_pure h₁
  | some v =>
    refine wpAny_bind (wpAny_mono h₁ (fun _ s₁' h₁' => ?_) fun _ _ h' => h')
    refine wpAny_bind (wpAny_mono h₁' (fun _ s₂ h₂ => wpAny_bind (wpAny_mono (wpAny_tests_nil (Q := fun ok s₃ => ok = true ∧ s₃ = s₂) ⟨rfl, rfl⟩) (fun ok s₃ h₃ => ?_) fun _ _ h' => h')) fun _ _ h' => h')
    obtain ⟨rfl, rfl⟩ := h₃
    exact wpAny_bind (wpAny_bind (wpAny_mono h₂ (fun kv s₄ h₄ => wpAny_bind (wpAny_holding (wpAny_mono h₄ (fun vv s₅ h₅ => wpAny_bind (wpAny_standAt (wpAny_holding (wpAny_mono h₅ (fun _ s₆ h₆ => wpAny_pure ⟨rfl, h₆⟩) fun _ _ h' => h')))) fun _ _ h' => h'))) fun _ _ h' => h'))
noncomputable def pairsOf (ps : List (Str × Value)) : List (Str × Value) := ps.foldl (fun kvs p => stored kvs p.1 p.2) []
noncomputable def DictSrc (prog : Program) (w : World) (h₀ : Heap) (L : Nat) (m : Str → Option Value) (Q : Value → Shared → Prop) (xv : Value) (s₁ : Shared) : Prop :=
  ∃ (its : Array Value) (ax : Addr) (ps : List (Str × Value)), xv = Value.ref ax ∧ Fr h₀ L s₁.heap m ∧ h₀.IsTuple ax its ∧ its.size ≤ 1000 ∧ its.size = ps.length ∧
      (∀ (i : Nat) v, its[i]? = some v → ∃ t k u b, v = Value.ref t ∧ h₀.IsTuple t #[.str k u, b] ∧ ps[i]? = some (k, b)) ∧
      ∀ D h' tk, Fr h₀ L h' m → (∀ b o, s₁.heap.get? b = some o → h'.get? b = some o) → s₁.heap.objs.size ≤ D → h'.DictOf (PySem.strKind prog w) D (pairsOf ps) → Q (.ref D) { s₁ with heap := h', toks := tk }
variable {E : Value → Shared → Prop} {s : Shared} {h₀ : Heap} {L : Nat} {m : Str → Option Value} {env : Env}
theorem pairs_snoc (ps : List (Str × Value)) (k : Str) (v : Value) : pairsOf (ps ++ [(k, v)]) = stored (pairsOf ps) k v := by unfold pairsOf; rw [List.foldl_append]; rfl
theorem pairs_fold : ∀ (ps acc : List (Str × Value)), (ps.foldl (fun kvs p => stored kvs p.1 p.2) acc).length ≤ acc.length + ps.length
  | [], acc => Nat.le_refl _
  | p :: r, acc => by
    have h1 := pairs_fold r (stored acc p.1 p.2)
    have h2 := stored_length_le acc p.1 p.2
    rw [List.foldl_cons, List.length_cons]; lia
theorem pairs_len (ps : List (Str × Value)) : (pairsOf ps).length ≤ ps.length := by
  have := pairs_fold ps []
  simpa [pairsOf] using this
/-- a dict comprehension over a tuple of pairs -/
inductive DictI (prog : Program) (w : World) (s₁ : Shared) (I ax : Nat) (its : Array Value) (ps : List (Str × Value)) : Nat → Shared → Prop
  | mk (h' : Heap) (tk i : Nat) (m' : Str → Option Value) (hi : i ≤ its.size) (hit : h'.IsTupleIter I ax i) (old : ∀ b o, s₁.heap.get? b = some o → h'.get? b = some o) (hn : h'.Ns (I + 1 + 1) m') (hD : h'.DictOf (PySem.strKind prog w) (I + 1) (pairsOf (ps.take i))) :
    DictI prog w s₁ I ax its ps (its.size + 1 - i) { s₁ with heap := h', toks := tk }
theorem comp_dict {iter : Expr} {x y : Str} {px py px' py' tp : Pos} {tk₀} {scope : Scope} {cl : List (Str × Addr)} {pos : Pos} {Q : Value → Shared → Prop}
    (F₀ : Fr h₀ L s.heap m) (hclos : closureFor scope env = pure cl) (hcell : ∀ y ∈ scope.names, y.2 ≠ .cell) (hkind : scope.kind = .function)
    (hnames : ∀ y ∈ scope.names, y.2 = .local → scope.names.lookup y.1 = some .local) (hx : scope.names.lookup x = some .local) (hy : scope.names.lookup y = some .local) (hxy : x ≠ y) (hh : A.handled = none)
    (hxd : (x == ("__debug__" : Str)) = false) (hyd : (y == ("__debug__" : Str)) = false)
    (h : wpAny (model prog w) A (eval iter env) (DictSrc prog w h₀ L m Q) E s)
    (hs : ∀ x, foldedSetIterable iter env x = pure x := by intro _; rfl) :
    wpAny (model prog w) A (eval (.DictComp (.Name x px') (.Name y py') [⟨.Tuple [.Name x px, .Name y py] tk₀ tp, iter, [], 0⟩] scope pos) env) Q E s := by
  rw [arm_eval_DictComp]
  refine wpAny_comprehension_free (use := none) rfl hs hclos hkind hnames (wpAny_mono h (fun xv s₁ h₁ => ?_) fun _ _ e => e)
  obtain ⟨its, ax, ps, rfl, F, S, hsz, hlen, hP, R⟩ := h₁
  have hl : s₁.heap.IsTuple ax its := let ⟨o, e, r⟩ := S; ⟨o, F.keep _ _ e, r⟩
  have hax : ax < s₁.heap.objs.size := by obtain ⟨_, e, _⟩ := hl; exact Heap.lt_size e
  refine wpAny_pyIter_tuple hl ?_
  obtain ⟨I, hIe⟩ : ∃ I : Nat, s₁.heap.objs.size = I := ⟨_, rfl⟩
  rw [hIe]
  rw [hIe] at R
  have hIlt : ∀ (b : Nat) (o : Obj), s₁.heap.get? b = some o → b < I := fun b o e => hIe ▸ Heap.lt_size e
  have up : ∀ b o, s₁.heap.get? b = some o → (s₁.heap.push { cls := .type "tuple_iterator", data := .fields #[.ref ax, .int 0 0] }).get? b = some o := fun b o e => Heap.get?_push_of_some _ e
  have hit : (s₁.heap.push { cls := .type "tuple_iterator", data := .fields #[.ref ax, .int 0 0] }).IsTupleIter I ax 0 := hIe ▸ ⟨_, Heap.get?_push_size _ rfl, rfl, rfl⟩
  have hsI : (s₁.heap.push { cls := .type "tuple_iterator", data := .fields #[.ref ax, .int 0 0] }).objs.size = I + 1 := by rw [Heap.size_push, hIe]
  generalize s₁.heap.push { cls := .type "tuple_iterator", data := .fields #[.ref ax, .int 0 0] } = H1 at up hit hsI
  refine wpAny_newObj_type ?_
  show wpAny _ A (newFunctionEnv _ _ _ _ _ _ _ _ _) _ _ _
  have up2 : ∀ b o, H1.get? b = some o → (H1.push { cls := .type "dict", dict := none, data := .dict #[] }).get? b = some o := fun b o e => Heap.get?_push_of_some _ e
  have hD0 : (H1.push { cls := .type "dict", dict := none, data := .dict #[] }).DictOf (PySem.strKind prog w) H1.objs.size [] := Heap.DictOf.new H1
  have hsD : (H1.push { cls := .type "dict", dict := none, data := .dict #[] }).objs.size = I + 1 + 1 := by rw [Heap.size_push, hsI]
  rw [hsI] at hD0
  show wpAny _ A _ _ _ { s₁ with heap := H1.push { cls := .type "dict", dict := none, data := .dict #[] } }
  rw [hsI]
  generalize H1.push { cls := .type "dict", dict := none, data := .dict #[] } = H2 at up2 hD0 hsD
  refine wpAny_newFunctionEnv hcell (by intro y hy; simp at hy) (fun h₁ hns₁ hsb₁ => ?_) hkind
  dsimp only at hns₁ hsb₁ ⊢
  rw [hsD] at hns₁ hsb₁ ⊢
  have old : ∀ b o, s₁.heap.get? b = some o → h₁.get? b = some o := fun b o e => hsb₁.extBut b o (by have := hIlt b o e; exact Nat.ne_of_lt (by lia)) (Heap.get?_push_of_some _ (up2 _ _ (up _ _ e)))
  have hit1 : h₁.IsTupleIter I ax 0 := let ⟨o, e, r⟩ := hit; ⟨o, hsb₁.extBut _ _ (show (I : Nat) ≠ I + 1 + 1 by lia) (Heap.get?_push_of_some _ (up2 _ _ e)), r⟩
  have hD1 : h₁.DictOf (PySem.strKind prog w) (I + 1) [] := hD0.at fun o e => hsb₁.extBut _ _ (show (I + 1 : Nat) ≠ I + 1 + 1 by lia) (Heap.get?_push_of_some _ e)
  have W := Walks.tuple (prog := prog) (w := w) hh I ax (Nat.ne_of_lt (hIe ▸ hax)) its
  have tp1 : ∀ {h' : Heap}, (∀ b o, s₁.heap.get? b = some o → h'.get? b = some o) → h'.IsTuple ax its := fun k => let ⟨o, e, r⟩ := hl; ⟨o, k _ _ e, r⟩
  have hLI : L < I := hIe ▸ F.ns.lt
  have frk : ∀ {h' : Heap}, (∀ b o, s₁.heap.get? b = some o → h'.get? b = some o) → Fr h₀ L h' m := fun k => F.keeps k
  have loop : ∀ s₃ : Shared, s₃ = { s₁ with heap := h₁, toks := s₁.toks + ([] : List (Str × Value)).length } →
      codeAny (model prog w) A (.compLoop (.DictComp (.Name x px') (.Name y py') [⟨.Tuple [.Name x px, .Name y py] tk₀ tp, iter, [], 0⟩] scope pos) 0 (.ref I) (.ref (I + 1)) (compEnvC scope cl (I + 1 + 1) env)) (compPost (model prog w) A E none Q (.ref (I + 1)) (I + 1 + 1)) s₃ := by
    rintro s₃ rfl
    refine loop_pairD
      (DictI prog w s₁ I ax its ps) ?_ (its.size + 1) ⟨h₁, _, 0, _, Nat.zero_le _, hit1, old, hns₁, hD1⟩
    rintro k s' ⟨h', tk, i, m', hi, hit', kp', hn', hD'⟩
    by_cases hlt : i < its.size
    · refine W.item i _ _ _ hlt ⟨hit', tp1 kp'⟩ fun v h₂ tk₂ hPv hst₂ hk₂ => ?_
      obtain ⟨t, key, u, bv, rfl, ht, hps⟩ := hP i v hPv
      have kp2 : ∀ b o, s₁.heap.get? b = some o → h₂.get? b = some o := fun b o e => hk₂ _ o (by simp only [List.mem_singleton]; exact Nat.ne_of_lt (hIlt b o e)) (kp' b o e)
      have C₂ : h₂.Ns (I + 1 + 1) m' := hn'.at' fun o e => hk₂ _ o (by simp only [List.mem_singleton]; exact Nat.ne_of_gt (by lia)) e
      have D₂ : h₂.DictOf (PySem.strKind prog w) (I + 1) (pairsOf (ps.take i)) := hD'.at fun o e => hk₂ _ o (by simp only [List.mem_singleton]; exact Nat.ne_of_gt (by lia)) e
      have ht2 : IsTup h₂ t #[.str key u, bv] := let ⟨o, e, r⟩ := ht; ⟨o, kp2 _ _ (F.keep _ _ e), r⟩
      refine go_tupiter hst₂.1 (assign_Tuple_tuple hh ht2 rfl rfl fun h₅ he => ?_)
      have he' : ∀ b o, h₂.get? b = some o → h₅.get? b = some o := fun b o e => he b o (Nat.ne_of_lt (Heap.lt_size e)) e
      refine assignInOrder_cons (wpAny_assign_Name (wpAny_storeName_local (lookup_relabel_local hx) (C₂.at' fun o e => he' _ o e) (fun h₆ hn₆ hs₆ => ?_) (by simp [compEnvC, relabel, hkind])))
      refine assignInOrder_cons (wpAny_assign_Name (wpAny_storeName_local (lookup_relabel_local hy) hn₆ (fun h₃ hn₃ hs₃ => ?_) (by simp [compEnvC, relabel, hkind])))
      refine assignInOrder_nil ?_
      have up3 : ∀ b o, (b : Nat) ≠ I + 1 + 1 → h₂.get? b = some o → h₃.get? b = some o := fun b o hb e => hs₃.extBut b o hb (hs₆.extBut b o hb (he' b o e))
      refine ldVarK (v := .str key u) hn₃ (by simp [hxy]) (ldVarK (v := bv) hn₃ (by simp) ?_ (by simp [compEnvC, relabel, hkind]) (lookup_relabel_local hy) hyd) (by simp [compEnvC, relabel, hkind]) (lookup_relabel_local hx) hxd
      have D₃ : h₃.DictOf (PySem.strKind prog w) (I + 1) (pairsOf (ps.take i)) := D₂.at fun o e => up3 _ _ (show (I + 1 : Nat) ≠ I + 1 + 1 by lia) e
      have pl := pairs_len (ps.take i)
      rw [List.length_take] at pl
      have hline : sizeLine = 2 ^ 24 := rfl
      refine wpAny_dictSet_pairs (hsz := by lia) (PySem.strKind_is prog w key u) D₃ fun h₄ D₄ hs₄ => ?_
      refine ⟨its.size + 1 - (i + 1), by lia, h₄, _, i + 1, _, hlt, ?_, fun b o e => ?_, hn₃.sameBut hs₄ (show (I + 1 + 1 : Nat) ≠ I + 1 by lia), ?_⟩
      · obtain ⟨o, e, r⟩ := hst₂.1
        exact ⟨o, hs₄.extBut _ _ (show (I : Nat) ≠ I + 1 by lia) (up3 _ _ (show (I : Nat) ≠ I + 1 + 1 by lia) e), r⟩
      · have hb := hIlt b o e
        exact hs₄.extBut _ _ (Nat.ne_of_lt (by lia)) (up3 _ _ (Nat.ne_of_lt (by lia)) (kp2 b o e))
      · have : ps.take (i + 1) = ps.take i ++ [(key, bv)] := by rw [List.take_add_one, hps]; rfl
        rw [this, pairs_snoc]; exact D₄
    · obtain rfl : i = its.size := Nat.le_antisymm hi (Nat.not_lt.mp hlt)
      refine W.done _ _ _ ⟨hit', tp1 kp'⟩ fun h₂ tk₂ hk₂ => ?_
      rw [hlen, List.take_length] at hD'
      refine ⟨m', hn'.at' fun o e => hk₂ _ o (by simp only [List.mem_singleton]; exact Nat.ne_of_gt (by lia)) e, fun h'' hs'' => R (I + 1) h'' tk₂ ?_ ?_ (by lia) ?_⟩
      · refine frk fun b o e => ?_
        have hb := hIlt b o e
        exact hs''.extBut _ _ (Nat.ne_of_lt (by lia)) (hk₂ _ o (by simp only [List.mem_singleton]; exact Nat.ne_of_lt (by lia)) (kp' b o e))
      · intro b o e
        have hb := hIlt b o e
        exact hs''.extBut _ _ (Nat.ne_of_lt (by lia)) (hk₂ _ o (by simp only [List.mem_singleton]; exact Nat.ne_of_lt (by lia)) (kp' b o e))
      · exact hD'.at fun o e => hs''.extBut _ _ (show (I + 1 : Nat) ≠ I + 1 + 1 by lia) (hk₂ _ o (by simp only [List.mem_singleton]; exact Nat.ne_of_gt (by lia)) e)
  exact codeAny_compStart_dict (loop _ rfl) (W.self 0 _ _ _ ⟨hit1, tp1 old⟩ (loop _ rfl))
end
theorem lk_tuple_keys : typeLookup (.type "tuple") "keys" = pure none := by rw [typeLookup_type, builtinLookup_eq_fast]; kernel_rfl
theorem lk_tuple_getattr : typeLookup (.type "tuple") "__getattr__" = pure none := by rw [typeLookup_type, builtinLookup_eq_fast]; kernel_rfl
theorem sub_attr : isSubtype (.type "AttributeError") (.type "AttributeError") = pure true := by rw [isSubtype_type]; kernel_rfl
theorem keys_msg : (Str.ofString (toString "'" ++ toString ((Manifest.find? "tuple").elim "tuple" fun x => x.tpName) ++ toString "' object has no attribute '") ++ Str.ofString "keys" ++ Str.ofString "'").length ≤ sizeLine := by decide +kernel
theorem first_attr : ((Manifest.find? "AttributeError").elim false fun t => t.mro.contains "StopIteration" || t.mro.contains "SystemExit") = false := by kernel_rfl
section
variable {prog : Program} {w : World} {A : Around} {E : Value → Shared → Prop} {h : Heap} {g : Array GenState} {d : Drawn} {t : Nat} {os : OsState} {a : Addr} {vs : List Value} {n : Nat}
theorem raise_attr {α : Type} {msg : Str} {o : Value} {Q : α → Shared → Prop} (hh : A.handled = none) (hm : msg.length ≤ sizeLine) (hE : ∀ h' tk e oe, (∀ b o, h.get? b = some o → h'.get? b = some o) → h'.get? e = some oe → oe.cls = .type "AttributeError" → E (.ref e) ⟨h', g, d, tk, os⟩) :
    wpAny (model prog w) A (raiseAttrError o (Str.ofString "keys") msg : Sem α) Q E ⟨h, g, d, t, os⟩ := by
  unfold raiseAttrError
  refine wpAny_bind (wpAny_mkStr (wpAny_bind ?_) hm)
  unfold newExc newTuple
  refine wpAny_bind (wpAny_newObj_type ?_ (by size_fits))
  refine wpAny_bind (m := firstArgMember _ _) (wpAny_of_eq (a := Value.none) (by simp only [firstArgMember, first_attr]; rfl) ?_)
  refine wpAny_newObj_type ?_ (by size_fits)
  dsimp only
  generalize hH1 : h.push _ = H1
  have up : ∀ b o, h.get? b = some o → (H1.push { cls := Value.type "AttributeError", data := Data.fields #[Value.ref h.objs.size, Value.none, Value.none, Value.none, Value.bool false, Value.none, unsetMember, unsetMember] }).get? b = some o := fun b o e => Heap.get?_push_of_some _ (hH1 ▸ Heap.get?_push_of_some _ e)
  have ho : (H1.push { cls := Value.type "AttributeError", data := Data.fields #[Value.ref h.objs.size, Value.none, Value.none, Value.none, Value.bool false, Value.none, unsetMember, unsetMember] }).get? H1.objs.size = some { cls := Value.type "AttributeError", data := Data.fields #[Value.ref h.objs.size, Value.none, Value.none, Value.none, Value.bool false, Value.none, unsetMember, unsetMember] } := Heap.get?_push_size _ rfl
  have hlt : h.objs.size < H1.objs.size := by rw [← hH1, Heap.size_push]; exact Nat.lt_succ_self _
  show wpAny _ _ _ _ _ ⟨H1.push { cls := Value.type "AttributeError", data := Data.fields #[Value.ref h.objs.size, Value.none, Value.none, Value.none, Value.bool false, Value.none, unsetMember, unsetMember] }, g, d, t + 1, os⟩
  generalize H1.push _ = H2 at up ho
  have hT : (⟨H2, g, d, t + 1 + 1, os⟩ : Shared).TypeIs (.ref H1.objs.size) "AttributeError" := ⟨_, ho, rfl⟩
  refine wpAny_bind (wpAny_mkText ?_)
  unfold noteAttr
  refine wpAny_bind (wpAny_bind (m := lacksNameAndObj _) ?_)
  unfold lacksNameAndObj
  refine wpAny_bind (wpAny_isInstance (T := "AttributeError") hT sub_attr ?_)
  simp only [Bool.not_true, Bool.false_eq_true, if_false]
  refine wpAny_bind (wpAny_load ho ?_)
  show wpAny _ _ (if (false || false) = true then _ else if (some (rawInt 0) == some (rawInt 1) || some (rawInt 0) == some (rawInt 1)) = true then _ else pure true) _ _ _
  rw [if_neg (by decide), if_neg (by decide)]
  refine wpAny_pure ?_
  simp only [if_true]
  refine wpAny_bind (wpAny_rule (wpAny_bind (wpAny_typeOf hT ?_)))
  show wpAny _ _ (layMembers _ _ _) _ _ _
  unfold layMembers
  refine wpAny_bind (wpAny_load ho (wpAny_update ho ?_))
  unfold raiseNew
  refine wpAny_bind (wpAny_handled ?_)
  rw [hh]
  have hu : ∀ b ob, h.get? b = some ob → (H2.update H1.objs.size (Obj.mapFields fun vs => vs.extract 0 6 ++ #[Value.str (Str.ofString "keys") (t + 1), o])).get? b = some ob := fun b _ e => by
    rw [Heap.get?_update_other _ _ (Nat.ne_of_gt (Nat.lt_trans (Heap.lt_size e) hlt))]
    exact up b _ e
  have hs := Heap.get?_update_self (Obj.mapFields fun vs => vs.extract 0 6 ++ #[Value.str (Str.ofString "keys") (t + 1), o]) ho (Obj.isFreed_of_fields (Obj.data_mapFields rfl _))
  first
    | exact wpAny_throw (hE _ _ _ _ hu hs (Obj.cls_mapFields _ _))
    | exact wpAny_bind (wpAny_pure (wpAny_throw (hE _ _ _ _ hu hs (Obj.cls_mapFields _ _))))
theorem keys_entry {tk : Tok} {Q : Fin → Shared → Prop} (hx : h.get? a = some (tupOf vs n)) (hh : A.handled = none) (hE : ∀ h' tk e oe, (∀ b o, h.get? b = some o → h'.get? b = some o) → h'.get? e = some oe → oe.cls = .type "AttributeError" → E (.ref e) ⟨h', g, d, tk, os⟩) :
    wpAny (model prog w) A (Builtin.«object.__getattribute__» ⟨[.ref a, .str "keys" tk], []⟩) Q E ⟨h, g, d, t, os⟩ := by
  have hT : (⟨h, g, d, t, os⟩ : Shared).TypeIs (.ref a) "tuple" := ⟨_, hx, rfl⟩
  have f4 := lk_tuple_keys
  repeat (any_goals (first | assumption | (with_reducible refine raise_attr hh ?_ hE) | wp_step))
  exact keys_msg
theorem keys_call {tk : Tok} {R : Result → Shared → Prop} (hx : h.get? a = some (tupOf vs n)) (hh : A.handled = none) (hE : ∀ h' tk e oe, (∀ b o, h.get? b = some o → h'.get? b = some o) → h'.get? e = some oe → oe.cls = .type "AttributeError" → R (.error (.ref e)) ⟨h', g, d, tk, os⟩) :
    codeAny (model prog w) A (.call (.builtin "tuple.__getattribute__") ⟨[.ref a, .str "keys" tk], []⟩) R ⟨h, g, d, t, os⟩ :=
  codeAny_call_builtin F.slot_tuple_getattribute.plain F.entry_tuple_ga (F.slot_tuple_getattribute.check _ _ _ _ _ _ _ _ (show (⟨h, g, d, t, os⟩ : Shared).TypeIs (.ref a) "tuple" from ⟨_, hx, rfl⟩) (F.args_tuple_getattribute_2 _ _) (keys_entry hx hh hE))
theorem keys_by {tk : Tok} {Q : Value → Shared → Prop} (hx : h.get? a = some (tupOf vs n)) (hh : A.handled = none) (hE : ∀ h' tk e oe, (∀ b o, h.get? b = some o → h'.get? b = some o) → h'.get? e = some oe → oe.cls = .type "AttributeError" → E (.ref e) ⟨h', g, d, tk, os⟩) :
    wpAny (model prog w) A (getAttrBy (.ref a) (.str "keys" tk) false) Q E ⟨h, g, d, t, os⟩ := by
  have hT : (⟨h, g, d, t, os⟩ : Shared).TypeIs (.ref a) "tuple" := ⟨_, hx, rfl⟩
  have f2 := F.slot_tuple_getattribute.lookup
  have f3 := F.slot_tuple_getattribute.bind (.ref a)
  repeat (any_goals (first | assumption | wp_step))
  refine keys_call hx hh fun h' tk e oe k ho hc => ?_
  have hTe : (⟨h', g, d, tk, os⟩ : Shared).TypeIs (.ref e) "AttributeError" := ⟨_, ho, hc⟩
  show wpAny _ _ (getattributeRaised _ _ _ _ _ _ _) _ _ _
  unfold getattributeRaised
  refine wpAny_bind (wpAny_isInstance (T := "AttributeError") hTe sub_attr ?_)
  simp only [if_true]
  unfold hookBehind
  rw [if_neg (show ¬ (onTheHeap (Value.type "tuple") = true) from nofun)]
  refine wpAny_bind (wpAny_of_eq lk_tuple_getattr ?_)
  show wpAny _ _ (attributeErrorLeaves _ _ _ false false) _ _ _
  unfold attributeErrorLeaves
  first
    | exact wpAny_throw (hE _ _ _ _ k ho hc)
    | exact wpAny_bind (wpAny_throw (hE _ _ _ _ k ho hc))
theorem keys_attr {Q : Option Value → Shared → Prop} (hx : h.get? a = some (tupOf vs n)) (hh : A.handled = none) (hq : ∀ h' tk, (∀ b o, h.get? b = some o → h'.get? b = some o) → Q none ⟨h', g, d, tk, os⟩) : wpAny (model prog w) A (getAttr? (.ref a) "keys") Q E ⟨h, g, d, t, os⟩ := by
  unfold getAttr? getAttrBy?
  refine wpAny_bind (wpAny_mkText (wpAny_bind (wpAny_attempt ?_)))
  refine keys_by hx hh fun h' tk e oe k ho hc => ?_
  have hTe : (⟨h', g, d, tk, os⟩ : Shared).TypeIs (.ref e) "AttributeError" := ⟨_, ho, hc⟩
  refine wpAny_bind (wpAny_isInstance (T := "AttributeError") hTe sub_attr ?_)
  simp only [if_true]
  exact wpAny_pure (hq _ _ k)
end
theorem entry_dul : entryFor table "dict.update.loop" = some Builtin.«dict.update.loop» := entryFor_of_tree (by kernel_rfl)
theorem plain_dul : plainId "dict.update.loop" = true := by decide +kernel
section
variable {prog : Program} {w : World} {A : Around} {E : Value → Shared → Prop} {s : Shared}
theorem pair_items {pt : Addr} {v0 v1 : Value} {m : Nat} {Q : List Value → Shared → Prop} (hp : s.heap.get? pt = some (tupOf [v0, v1] m)) (h : Q [v0, v1] s) : wpAny (model prog w) A (Builtin.Dict.pairItems (.ref pt)) Q E s := by
  have hT : s.TypeIs (.ref pt) "tuple" := ⟨_, hp, rfl⟩
  unfold Builtin.Dict.pairItems
  refine wpAny_bind (wpAny_typeOf hT ?_)
  rw [if_pos (by decide)]
  obtain ⟨hp', g, d, t, os⟩ := s
  repeat (any_goals (first | assumption | wp_step))
theorem dul_loop {R : Result → Shared → Prop} {D I t : Nat} {its : Array Value} {ps : List (Str × Value)} {h₀ : Heap} (hh : A.handled = none) (hsz : its.size ≤ 1000) (hlen : its.size = ps.length)
    (hP : ∀ (i : Nat) v, its[i]? = some v → ∃ pt k u b m, v = Value.ref pt ∧ h₀.get? pt = some (tupOf [.str k u, b] m) ∧ ps[i]? = some (k, b)) (hD0 : ∀ b o, h₀.get? b = some o → b < I) (hDI : D ≠ I) (hDlt : D < I) (hDn : h₀.get? D = none) (ht : h₀.IsTuple t its) (htI : t ≠ I)
    (hR : ∀ h' tk, (∀ b o, h₀.get? b = some o → h'.get? b = some o) → h'.DictOf (PySem.strKind prog w) D (pairsOf ps) → R (.ok (.ret .none)) { s with heap := h', toks := tk }) :
    ∀ (k i : Nat) (u : Tok) (h' : Heap) (tk : Tok), k + i = its.size → (∀ b o, h₀.get? b = some o → h'.get? b = some o) → h'.IsTupleIter I t i → h'.DictOf (PySem.strKind prog w) D (pairsOf (ps.take i)) →
      codeAny (model prog w) A (.builtin "dict.update.loop" ⟨[.ref D, .ref I, .int i u, .none], []⟩) R { s with heap := h', toks := tk } := by
  intro k
  have W := Walks.tuple (prog := prog) (w := w) (A := A.in1) hh I t htI its
  have tp1 : ∀ {h' : Heap}, (∀ b o, h₀.get? b = some o → h'.get? b = some o) → h'.IsTuple t its := fun k => let ⟨o, e, r⟩ := ht; ⟨o, k _ _ e, r⟩
  induction k with
  | zero =>
    intro i u h' tk hki kp hit hD
    rw [Nat.zero_add] at hki
    subst hki
    refine codeAny_builtin entry_dul ?_
    rw [Around.under_plainId plain_dul]
    unfold Builtin.«dict.update.loop»
    refine wpAny_bind (W.done _ _ _ ⟨hit, tp1 kp⟩ fun h₂ tk₂ hk₂ => ?_)
    rw [hlen, List.take_length] at hD
    show wpAny _ _ (do Builtin.Dict.addKeywords D []; ret .none) _ _ _
    refine wpAny_bind (wpAny_pure (wpAny_pure ?_))
    refine hR _ _ (fun b o e => hk₂ _ o (by simp only [List.mem_singleton]; exact Nat.ne_of_lt (hD0 b o e)) (kp b o e)) (hD.at fun o e => hk₂ _ o (by simp only [List.mem_singleton]; exact hDI) e)
  | succ k ih =>
    intro i u h' tk hki kp hit hD
    have hlt : i < its.size := by lia
    refine codeAny_builtin entry_dul ?_
    rw [Around.under_plainId plain_dul]
    unfold Builtin.«dict.update.loop»
    refine wpAny_bind (W.item i _ _ _ hlt ⟨hit, tp1 kp⟩ fun v h₂ tk₂ hPv hst₂ hk₂ => ?_)
    obtain ⟨pt, key, u2, bv, m, rfl, hpt, hps⟩ := hP i v hPv
    have kp2 : ∀ b o, h₀.get? b = some o → h₂.get? b = some o := fun b o e => hk₂ _ o (by simp only [List.mem_singleton]; exact Nat.ne_of_lt (hD0 b o e)) (kp b o e)
    have D₂ : h₂.DictOf (PySem.strKind prog w) D (pairsOf (ps.take i)) := hD.at fun o e => hk₂ _ o (by simp only [List.mem_singleton]; exact hDI) e
    have pl := pairs_len (ps.take i)
    rw [List.length_take] at pl
    have hline : sizeLine = 2 ^ 24 := rfl
    dsimp only
    refine wpAny_bind (wpAny_holding (wpAny_bind (wpAny_tryCatch (pair_items (kp2 _ _ hpt) ?_))))
    dsimp only
    refine wpAny_holding (wpAny_dictSet_pairs (hsz := by lia) (PySem.strKind_is prog w key u2) D₂ fun h₄ D₄ hs₄ => ?_)
    have e1 : ps.take (i + 1) = ps.take i ++ [(key, bv)] := by rw [List.take_add_one, hps]; rfl
    rw [← pairs_snoc, ← e1] at D₄
    have kp4 : ∀ b o, h₀.get? b = some o → h₄.get? b = some o := fun b o e => hs₄.extBut _ _ (fun q => by rw [q, hDn] at e; cases e) (kp2 b o e)
    have it4 : h₄.IsTupleIter I t (i + 1) := by
      obtain ⟨o, e, r⟩ := hst₂.1
      exact ⟨o, hs₄.extBut _ _ (Ne.symm hDI) e, r⟩
    first
      | exact wpAny_pure ⟨plainId_quiet plain_dul _, ih (i + 1) 0 h₄ _ (by lia) kp4 it4 D₄⟩
      | exact wpAny_bind (wpAny_pure (wpAny_pure ⟨plainId_quiet plain_dul _, ih (i + 1) 0 h₄ _ (by lia) kp4 it4 D₄⟩))
/-- dict of a tuple of pairs -/
theorem dict_tup {t n : Nat} {its : List Value} {ps : List (Str × Value)} {Q : Value → Shared → Prop} (ht : s.heap.get? t = some (tupOf its n)) (hh : A.handled = none) (hsz : its.length ≤ 1000) (hlen : its.length = ps.length)
    (hP : ∀ (i : Nat) v, its[i]? = some v → ∃ pt k u b m, v = Value.ref pt ∧ s.heap.get? pt = some (tupOf [.str k u, b] m) ∧ ps[i]? = some (k, b))
    (h : ∀ D h' tk, (∀ b o, s.heap.get? b = some o → h'.get? b = some o) → s.heap.objs.size ≤ D → h'.DictOf (PySem.strKind prog w) D (pairsOf ps) → Q (.ref D) { s with heap := h', toks := tk }) :
    wpAny (model prog w) A (call (.type "dict") [.ref t]) Q E s := by
  refine callType_codes (Q₁ := fun obj s₁ => obj = .ref s.heap.objs.size ∧ s₁ = { s with heap := s.heap.push { cls := .type "dict", data := .dict #[] } }) F.kt_called_dict (F.kt_typeCall_dict_1 _) F.entry_dict_init (kt_code_dict_new _ ⟨rfl, rfl⟩) ?_
  rintro obj s₁ ⟨rfl, rfl⟩
  have hnew : (s.heap.push { cls := .type "dict", data := .dict #[] }).DictOf (PySem.strKind prog w) s.heap.objs.size [] := Heap.DictOf.new s.heap
  have up : ∀ b o, s.heap.get? b = some o → (s.heap.push { cls := .type "dict", data := .dict #[] }).get? b = some o := fun b o e => Heap.get?_push_of_some _ e
  have hDn : s.heap.get? s.heap.objs.size = none := Heap.get?_none_of_le (Nat.le_refl _)
  obtain ⟨H1, hH1⟩ : ∃ H1, H1 = s.heap.push { cls := .type "dict", data := .dict #[] } := ⟨_, rfl⟩
  rw [← hH1] at hnew up ⊢
  have hs1 : H1.objs.size = s.heap.objs.size + 1 := by rw [hH1, Heap.size_push]
  refine ⟨hnew.typeIs, F.args_dict_init_2 _ _, ?_⟩
  unfold Builtin.«dict.__init__»
  refine wpAny_bind ?_
  unfold Builtin.Dict.selfAndRest
  refine wpAny_bind (wpAny_notOrdered_dict hnew.typeIs ?_)
  show wpAny _ _ (pure (s.heap.objs.size, [Value.ref t])) _ _ _
  refine wpAny_pure ?_
  show wpAny _ _ (Builtin.Dict.updateFrom "dict.__init__" s.heap.objs.size (.ref t) [] .none) _ _ _
  unfold Builtin.Dict.updateFrom
  have ht1 : H1.get? t = some (tupOf its n) := up _ _ ht
  refine wpAny_bind (wpAny_typeOf (T := "tuple") ⟨_, ht1, rfl⟩ ?_)
  rw [if_pos (by decide)]
  refine wpAny_bind (keys_attr (h := H1) ht1 hh fun h2 tk2 k2 => ?_)
  simp only [Option.isNone_none, if_true]
  refine wpAny_bind (wpAny_rule ?_)
  have ht2 : h2.IsTuple t its.toArray := ⟨_, k2 _ _ ht1, rfl, _, rfl⟩
  have hD2 : h2.DictOf (PySem.strKind prog w) s.heap.objs.size [] := hnew.at fun o e => k2 _ _ e
  have hlt2 : s.heap.objs.size < h2.objs.size := by
    obtain ⟨o, _, _, e, _⟩ := hD2
    exact Heap.lt_size e
  refine wpAny_bind (wpAny_pyIter_tuple ht2 ?_)
  obtain ⟨I, hI⟩ : ∃ I : Nat, I = h2.objs.size := ⟨_, rfl⟩
  have hbI : ∀ b o, s.heap.get? b = some o → b < I := fun b o e => by
    rw [hI]; exact Heap.lt_size (k2 _ _ (up _ _ e))
  have hlt3 : @LT.lt Nat _ s.heap.objs.size h2.objs.size := hlt2
  have htI : @Ne Nat t I := Nat.ne_of_lt (hbI _ _ ht)
  have up3 : ∀ b o, h2.get? b = some o → (h2.push { cls := .type "tuple_iterator", data := .fields #[.ref t, .int 0 0] }).get? b = some o := fun b o e => Heap.get?_push_of_some _ e
  have hit : (h2.push { cls := .type "tuple_iterator", data := .fields #[.ref t, .int 0 0] }).IsTupleIter I t 0 := hI ▸ ⟨_, Heap.get?_push_size _ rfl, rfl, rfl⟩
  show wpAny _ _ (again (Code.builtin "dict.update.loop" ⟨[.ref s.heap.objs.size, .ref h2.objs.size, rawInt 0, .none], []⟩)) _ _ _
  rw [← hI]
  refine wpAny_pure ⟨plainId_quiet plain_dul _, ?_⟩
  refine dul_loop (A := A.in1) (t := t) (its := its.toArray) (ps := ps) (h₀ := s.heap) (s := s) hh (by rw [List.size_toArray]; exact hsz) (by rw [List.size_toArray]; exact hlen) (fun i v hv => hP i v (by simpa using hv)) hbI (by rw [hI]; exact Nat.ne_of_lt hlt3) (by rw [hI]; exact hlt3) hDn ⟨_, ht, rfl, _, rfl⟩ htI
    (fun h' tk kk hD => ?_) its.toArray.size 0 0 _ _ (by lia) (fun b o e => up3 _ _ (k2 _ _ (up _ _ e))) hit (hD2.at fun o e => up3 _ _ e)
  exact ⟨rfl, h _ _ _ kk (Nat.le_refl _) hD⟩
end
/-- the rows of a dict denote these -/
inductive Rows (P : Addr → Obj → Prop) : List (Str × Value) → List (Str × D) → Prop
  | nil : Rows P [] []
  | cons {k : Str} {v : Value} {d : D} {kvs : List (Str × Value)} {rs : List (Str × D)} : Dv P v d → Rows P kvs rs → Rows P ((k, v) :: kvs) ((k, d) :: rs)
theorem Rows.mono {P P' : Addr → Obj → Prop} (h : ∀ a vs n, P a (tupOf vs n) → P' a (tupOf vs n)) {kvs : List (Str × Value)} {rs : List (Str × D)} (x : Rows P kvs rs) : Rows P' kvs rs := Rows.rec (motive := fun kvs rs _ => Rows P' kvs rs) .nil (fun a _ ih => .cons (a.mono h) ih) x
theorem Rows.length {P : Addr → Obj → Prop} {kvs : List (Str × Value)} {rs : List (Str × D)} (x : Rows P kvs rs) : kvs.length = rs.length := Rows.rec (motive := fun kvs rs _ => kvs.length = rs.length) rfl (fun _ _ ih => congrArg Nat.succ ih) x
noncomputable def St.due (m : Str) : St → List (Str × D)
  | .br _ _ x y => [(Str.ofString "end", .tup (toDs m x)), (Str.ofString "not end", .tup (toDs m y))]
  | _ => []
section
variable {prog : Program} {w : World} {A : Around} {E : Value → Shared → Prop} {s : Shared}
theorem rows_at {P : Addr → Obj → Prop} {k : Str} {v : Value} {d : D} {kvs : List (Str × Value)} {rs : List (Str × D)} (x : Rows P kvs rs) : (k, d) ∈ rs → (rs.map (·.1)).Nodup → ∃ v, valueAt kvs k = some v ∧ Dv P v d := by
  refine Rows.rec (motive := fun kvs rs _ => (k, d) ∈ rs → (rs.map (·.1)).Nodup → ∃ v, valueAt kvs k = some v ∧ Dv P v d) (fun h _ => nomatch h) (fun {k' v' d' kvs rs} a b ih h nd => ?_) x
  rw [List.map_cons, List.nodup_cons] at nd
  rcases List.mem_cons.mp h with e | h
  · cases e
    exact ⟨v', by simp [valueAt], a⟩
  · obtain ⟨u, e, q⟩ := ih h nd.2
    refine ⟨u, ?_, q⟩
    have hne : k' ≠ k := fun q => nd.1 (q ▸ List.mem_map_of_mem (f := (·.1)) h)
    simp [valueAt, hne]
    simpa [valueAt] using e
theorem rows_hits {kb : List (Str × Value)} {rb : List (Str × D)} (hb : Rows (Hv s.heap) kb rb) (nd : (rb.map (·.1)).Nodup) {ka : List (Str × Value)} {ra : List (Str × D)} (x : Rows (Hv s.heap) ka ra) : (∀ p ∈ ra, p ∈ rb) → (∀ p ∈ ra, A.units + p.2.hgt < cLine) → KeqHits A s kb ka true := by
  refine Rows.rec (motive := fun ka ra _ => (∀ p ∈ ra, p ∈ rb) → (∀ p ∈ ra, A.units + p.2.hgt < cLine) → KeqHits A s kb ka true) (fun _ _ => .nil) (fun {k v d kvs rs} a r ih h hu => ?_) x
  obtain ⟨u, e, q⟩ := rows_at (v := v) hb (h _ (.head _)) nd
  exact .hit (e := true) e (eqD a _ _ q (hu _ (.head _))) (ih (fun p hp => h p (.tail _ hp)) fun p hp => hu p (.tail _ hp))
/-- dicts that denote the same rows do not differ -/
theorem ne_rows {a b : Nat} {ka kb : List (Str × Value)} {rs : List (Str × D)} {Q : Value → Shared → Prop} (ha : (a == sysModules) = false) (hb : (b == sysModules) = false) (da : s.heap.DictOf (PySem.strKind prog w) a ka) (db : s.heap.DictOf (PySem.strKind prog w) b kb)
    (ra : Rows (Hv s.heap) ka rs) (rb : Rows (Hv s.heap) kb rs) (nd : (rs.map (·.1)).Nodup) (hu : A.units < 5000) (hh : ∀ p ∈ rs, p.2.hgt ≤ 1000) (h : Q (.bool false) s) : wpAny (model prog w) A (compareOp .NotEq (.ref a) (.ref b)) Q E s := by
  have hl : ka.length = kb.length := by rw [ra.length, rb.length]
  refine keq_ne ha hb da db (by show _ < 9900; lia) (fun _ => rows_hits rb nd ra (fun p hp => hp) fun p hp => ?_) ?_
  · have := hh p hp
    show A.units + 1 + _ < 9900; lia
  · rw [hl]; simpa using h
end
theorem rulesOgBr : True := by
  w_top off
  k_with_none
  k_with "spliced" => ((with_reducible show wpAny _ _ (spliced (backTo _ (starEach (_ :: _) _))) _ _ _); k_dflt (refine' args_at ?ogF ?ogk ?ogv ?_; (case ogF => k_asm); (case ogk => rfl); (case ogv => rfl)); k_whole)
  k_with "eval Constant int" => refine int_at ?_
  k_with "eval Constant str" => refine str_at ?_
  k_with "eval Call" => (k_dflt (first | (refine' callK_at ?ogF ?ogX ?ogT ?oge ?ogf ?ogk ?ogg ?ogd ?ogv ?_; (case ogX => k_asm); (case ogT => k_asm); (case oge => k_is); (case ogf => k_is); (case ogg => rfl); (case ogd => rfl); (case ogF => k_asm); (case ogk => rfl); (case ogv => rfl); k_whole) | (refine' callB_at ?ogF ?ogX ?ogT ?oge ?ogb ?ogi ?ogn ?ogk ?ogg ?ogd ?ogv ?_; (case ogX => k_asm); (case ogT => k_asm); (case oge => k_is); (case ogb => boot_fast); (case ogi => rfl); (case ogn => decide); (case ogg => rfl); (case ogd => rfl); (case ogF => k_asm); (case ogk => rfl); (case ogv => rfl); k_whole)))
  k_with "eval Subscript" => (k_dflt (refine' sub_at ?ogF ?ogk ?ogv ?ogw ?_; (case ogF => k_asm); (case ogk => rfl); (case ogv => rfl); (case ogw => rfl)); k_whole)
  k_with "ite" => (k_closed; k_dflt (first | refine iteT rfl ?_ | refine iteF rfl ?_))
  k_with "isTrue Compare" => (k_dflt (refine' cmp_at ?ogF ?ogk ?ogv ?ogw ?ogb ?_; (case ogF => k_asm); (case ogk => rfl); (case ogv => rfl); (case ogw => rfl); (case ogb => rfl)); k_whole)
  k_with "execs cons" => ((with_reducible refine wpAny_execs_cons ?_); (try dsimp only); (try clear qk ek); (try k_fold))
  k_with "og_mem" => first | with_reducible assumption | (refine memI ?_; with_reducible assumption) | (refine List.mem_append_right _ ?_; k_mem) | (refine List.mem_append_left _ ?_; k_mem)
  k_with "og_neo" => first | exact neLt (by assumption) (by k_mem) | exact neGt (by assumption) (by k_mem) | (refine neN ?_; (try dsimp only); lia)
  k_with "og_ne" => first | assumption | exact Ne.symm (by assumption) | (k_extra "og_neo")
  k_with "og_all" => first | assumption | exact neAll (by assumption) (fun _ h => h) | exact neAll (by assumption) (by intro p hp; k_mem) | exact off1 (by assumption) (by assumption) | exact LCg_lt (by assumption) | exact offL (by assumption) (by k_mem) | exact off_tup (by assumption) (by assumption) (by intro p hp; k_mem) (by k_mem) | (refine List.forall_mem_append.mpr ⟨?_, ?_⟩ <;> k_all) | exact off1 (by assumption) (by lia)
  k_with "og_peel" => ((try dsimp +zetaDelta only [List.nil_append, List.cons_append] at *); (repeat (first | clear ledk | clear mk | clear qk | clear ek)))
  k_with "og_klt" => skip
  k_with "newTuple" => (k_dflt (refine' newtup_le ?ogF ?ogN ?_ ?ogz; (case ogF => k_asm); (case ogN => k_asm); (case ogz => kmk_size)); intro _ _ ledk _ _ l1; (try skip); (try k_sweep); (try (revert l1; intros)))
  k_with "eval Tuple" => (k_dflt (refine' tup_le ?ogF ?ogN ?ogk ?ogv ?ogz ?_; (case ogN => k_asm); (case ogF => k_asm); (case ogk => rfl); (case ogv => rfl); (case ogz => kmk_size)); k_whole; intro _ _ ledk _ _ l1; (try skip); (try k_sweep); (try (revert l1; intros)))
  k_with "storeName" => (k_dflt (refine' store_le ?ogF ?ogN ?_ ?oga ?ogb; (case ogF => k_asm); (case ogN => k_asm); (case oga => rfl); (case ogb => rfl)); k_whole; intro _ mk _ _; (try k_sweep))
  k_with "call builtin:list.append" => ((with_reducible show wpAny _ _ (call (Value.builtin _) [Value.ref _, _]) _ _ _); k_dflt (refine' append_le ?ogF ?ogN ?ogU ?_ ?ogz; (case ogF => k_asm); (case ogN => k_asm); (case ogU => k_upd); (case ogz => ((try simp only [List.length_append, List.length_cons, List.length_nil]); lia))); k_whole; intro _ ledk _ _; (try k_sweep))
  k_with "subscriptTail" => ((with_reducible show wpAny _ _ (subscriptTail _ _ (Value.ref _) (Value.int _ _)) _ _ _); k_dflt (refine' sub_g ?ogk1 ?ogk2 ?ogk3 ?ogk4 ?ogk5 ?ogk6 ?_ ?ogk7; (case ogk1 => k_asm); (case ogk2 => with_reducible assumption); (case ogk3 => decide); (case ogk4 => decide); (case ogk5 => exact rfl); (case ogk6 => exact rfl); (case ogk7 => with_unfolding_all rfl); k_whole))
  k_with "compareOp NotIn str ref" => (k_dflt (first | (refine' notin_K (b := true) ?ogk1 ?ogk2 ?ogk3 ?ogk4 ?ogk5 ?_; (case ogk1 => k_asm); (case ogk2 => k_asm); (case ogk3 => k_is); (case ogk4 => (repeat constructor)); (case ogk5 => decide); k_whole) | (refine' notin_K (b := false) ?ogk1 ?ogk2 ?ogk3 ?ogk4 ?ogk5 ?_; (case ogk1 => k_asm); (case ogk2 => k_asm); (case ogk3 => k_is); (case ogk4 => (repeat constructor)); (case ogk5 => decide); k_whole)))
  k_with "eval DictComp" => (k_dflt (refine' comp_dict ?ogF0 ?ogh1 ?ogh2 ?ogh3 ?ogh4 ?ogh5 ?ogh6 ?ogh7 ?ogh8 ?ogh9 ?ogh10 ?_ ?oghs; (case ogF0 => k_asm); (case ogh1 => exact rfl); (case ogh2 => decide); (case ogh3 => exact rfl); (case ogh4 => decide); (case ogh5 => exact rfl); (case ogh6 => exact rfl); (case ogh7 => decide); (case ogh8 => k_asm); (case ogh9 => decide); (case ogh10 => decide); (case oghs => (intro _; rfl)); k_whole))
  trivial
theorem br_mv {prog : Program} {w : World} {A : Around} {s : Shared} {G : Heap} {R : Result → Shared → Prop} {v : Value} {mk : Str} {a b : Rf} (B : Base w G) (kp : G.StaysIn s.heap)
    (hv : Dv (Hv s.heap) v ((St.mv a b).toD mk)) (hA : A.handled = none) (hd : A.depth + 10 < 800) (hu : A.units + 20 < 4500)
    (h : ∀ h' tk' D kvs, Kp [] s.heap h' → s.heap.get? D = none → (D == sysModules) = false → h'.DictOf (PySem.strKind prog w) D kvs → Rows (Hv h') kvs ((St.mv a b).due mk) → R (.ok (.ret (.ref D))) { s with heap := h', toks := tk' }) :
    codeAny (model prog w) A (.call (.ref 20) ⟨[v], []⟩) R s := by
  have hrm : A.depth < recursionLimit := Nat.lt_trans (by first | exact Nat.lt_of_le_of_lt (Nat.le_add_right _ _) (Nat.lt_trans hd (by decide)) | exact Nat.lt_of_le_of_lt hd (by decide) | lia) (show 800 < recursionLimit by decide)
  rw [St.toD.eq_1] at hv
  simp only [sS, List.cons_append, List.nil_append] at hv
  refine' enter (binds := [(Str.ofString "statement", v)]) B kp [] ?_ ?_ ?_ hrm ?_ ?_ ?_ ?_ ?_ ?_ ?_
  any_goals k_is
  any_goals (exact BindsTo.of_eq rfl)
  any_goals (exact locs rfl)
  any_goals (first | rfl | decide)
  · exact List.forall_mem_nil _
  intro g h₁ hg1 hg2 F N B'
  have gv := dv_g hg1 (List.forall_mem_nil _) hv
  have X := B'.X
  obtain ⟨p, loose, mean, mg, mb, Tp⟩ := B'.T
  obtain ⟨av, vs, nv, hva, hvs⟩ := dvt gv
  obtain ⟨v0, v1, v2, d0, d1, d2⟩ := dvs3 hvs
  obtain ⟨t0, rfl⟩ := dvstr d0
  have hva : g.get? av = some (tupOf [.str (Str.ofString "move") t0, v1, v2] nv) := hva
  clear kp B hg2 hrm hv gv
  k_steps
  all_goals (try dsimp only)
  k_extra "og_peel"
  rename_i d' h' o' F' N' l1' lo' hs' fs' hi' fi'
  refine h _ _ _ [] (kp_fin hg1 F' (List.forall_mem_nil _) (Nat.le_refl _)) ?_ lo' (Heap.dictOf_iff.mpr ⟨o', (N' _ (.head _)).1, hs'⟩) .nil
  cases e : s.heap.get? d' with
  | none => rfl
  | some o => have e1 := (N' _ (.head _)).2.2; rw [hg1 _ _ e List.not_mem_nil] at e1; cases e1
theorem br_iff {prog : Program} {w : World} {A : Around} {s : Shared} {G : Heap} {R : Result → Shared → Prop} {v : Value} {mk : Str} {a b : Rf} {x y : List St} (B : Base w G) (kp : G.StaysIn s.heap)
    (hv : Dv (Hv s.heap) v ((St.iff a b x y).toD mk)) (hA : A.handled = none) (hd : A.depth + 10 < 800) (hu : A.units + 20 < 4500)
    (h : ∀ h' tk' D kvs, Kp [] s.heap h' → s.heap.get? D = none → (D == sysModules) = false → h'.DictOf (PySem.strKind prog w) D kvs → Rows (Hv h') kvs ((St.iff a b x y).due mk) → R (.ok (.ret (.ref D))) { s with heap := h', toks := tk' }) :
    codeAny (model prog w) A (.call (.ref 20) ⟨[v], []⟩) R s := by
  have hrm : A.depth < recursionLimit := Nat.lt_trans (by first | exact Nat.lt_of_le_of_lt (Nat.le_add_right _ _) (Nat.lt_trans hd (by decide)) | exact Nat.lt_of_le_of_lt hd (by decide) | lia) (show 800 < recursionLimit by decide)
  rw [St.toD.eq_2] at hv
  simp only [sS, List.cons_append, List.nil_append] at hv
  refine' enter (binds := [(Str.ofString "statement", v)]) B kp [] ?_ ?_ ?_ hrm ?_ ?_ ?_ ?_ ?_ ?_ ?_
  any_goals k_is
  any_goals (exact BindsTo.of_eq rfl)
  any_goals (exact locs rfl)
  any_goals (first | rfl | decide)
  · exact List.forall_mem_nil _
  intro g h₁ hg1 hg2 F N B'
  have gv := dv_g hg1 (List.forall_mem_nil _) hv
  have X := B'.X
  obtain ⟨p, loose, mean, mg, mb, Tp⟩ := B'.T
  obtain ⟨av, vs, nv, hva, hvs⟩ := dvt gv
  obtain ⟨v0, v1, v2, v3, d0, d1, d2, d3⟩ := dvs4 hvs
  obtain ⟨t0, rfl⟩ := dvstr d0
  have hva : g.get? av = some (tupOf [.str (Str.ofString "if") t0, v1, v2, v3] nv) := hva
  clear kp B hg2 hrm hv gv
  k_steps
  all_goals (try dsimp only)
  k_extra "og_peel"
  rename_i d' h' o' F' N' l1' lo' hs' fs' hi' fi'
  refine h _ _ _ [] (kp_fin hg1 F' (List.forall_mem_nil _) (Nat.le_refl _)) ?_ lo' (Heap.dictOf_iff.mpr ⟨o', (N' _ (.head _)).1, hs'⟩) .nil
  cases e : s.heap.get? d' with
  | none => rfl
  | some o => have e1 := (N' _ (.head _)).2.2; rw [hg1 _ _ e List.not_mem_nil] at e1; cases e1
theorem br_ev {prog : Program} {w : World} {A : Around} {s : Shared} {G : Heap} {R : Result → Shared → Prop} {v : Value} {mk : Str} {a : Rf} {x y z : List St} (B : Base w G) (kp : G.StaysIn s.heap)
    (hv : Dv (Hv s.heap) v ((St.ev a x y z).toD mk)) (hA : A.handled = none) (hd : A.depth + 10 < 800) (hu : A.units + 20 < 4500)
    (h : ∀ h' tk' D kvs, Kp [] s.heap h' → s.heap.get? D = none → (D == sysModules) = false → h'.DictOf (PySem.strKind prog w) D kvs → Rows (Hv h') kvs ((St.ev a x y z).due mk) → R (.ok (.ret (.ref D))) { s with heap := h', toks := tk' }) :
    codeAny (model prog w) A (.call (.ref 20) ⟨[v], []⟩) R s := by
  have hrm : A.depth < recursionLimit := Nat.lt_trans (by first | exact Nat.lt_of_le_of_lt (Nat.le_add_right _ _) (Nat.lt_trans hd (by decide)) | exact Nat.lt_of_le_of_lt hd (by decide) | lia) (show 800 < recursionLimit by decide)
  rw [St.toD.eq_3] at hv
  simp only [sS, List.cons_append, List.nil_append] at hv
  refine' enter (binds := [(Str.ofString "statement", v)]) B kp [] ?_ ?_ ?_ hrm ?_ ?_ ?_ ?_ ?_ ?_ ?_
  any_goals k_is
  any_goals (exact BindsTo.of_eq rfl)
  any_goals (exact locs rfl)
  any_goals (first | rfl | decide)
  · exact List.forall_mem_nil _
  intro g h₁ hg1 hg2 F N B'
  have gv := dv_g hg1 (List.forall_mem_nil _) hv
  have X := B'.X
  obtain ⟨p, loose, mean, mg, mb, Tp⟩ := B'.T
  obtain ⟨av, vs, nv, hva, hvs⟩ := dvt gv
  obtain ⟨v0, v1, v2, v3, d0, d1, d2, d3⟩ := dvs4 hvs
  obtain ⟨t0, rfl⟩ := dvstr d0
  have hva : g.get? av = some (tupOf [.str (Str.ofString "evaluate") t0, v1, v2, v3] nv) := hva
  clear kp B hg2 hrm hv gv
  k_steps
  all_goals (try dsimp only)
  k_extra "og_peel"
  rename_i d' h' o' F' N' l1' lo' hs' fs' hi' fi'
  refine h _ _ _ [] (kp_fin hg1 F' (List.forall_mem_nil _) (Nat.le_refl _)) ?_ lo' (Heap.dictOf_iff.mpr ⟨o', (N' _ (.head _)).1, hs'⟩) .nil
  cases e : s.heap.get? d' with
  | none => rfl
  | some o => have e1 := (N' _ (.head _)).2.2; rw [hg1 _ _ e List.not_mem_nil] at e1; cases e1
theorem br_pf {prog : Program} {w : World} {A : Around} {s : Shared} {G : Heap} {R : Result → Shared → Prop} {v : Value} {mk : Str} {a b c : Rf} {x : List St} (B : Base w G) (kp : G.StaysIn s.heap)
    (hv : Dv (Hv s.heap) v ((St.pf a b c x).toD mk)) (hA : A.handled = none) (hd : A.depth + 10 < 800) (hu : A.units + 20 < 4500)
    (h : ∀ h' tk' D kvs, Kp [] s.heap h' → s.heap.get? D = none → (D == sysModules) = false → h'.DictOf (PySem.strKind prog w) D kvs → Rows (Hv h') kvs ((St.pf a b c x).due mk) → R (.ok (.ret (.ref D))) { s with heap := h', toks := tk' }) :
    codeAny (model prog w) A (.call (.ref 20) ⟨[v], []⟩) R s := by
  have hrm : A.depth < recursionLimit := Nat.lt_trans (by first | exact Nat.lt_of_le_of_lt (Nat.le_add_right _ _) (Nat.lt_trans hd (by decide)) | exact Nat.lt_of_le_of_lt hd (by decide) | lia) (show 800 < recursionLimit by decide)
  rw [St.toD.eq_4] at hv
  simp only [sS, List.cons_append, List.nil_append] at hv
  refine' enter (binds := [(Str.ofString "statement", v)]) B kp [] ?_ ?_ ?_ hrm ?_ ?_ ?_ ?_ ?_ ?_ ?_
  any_goals k_is
  any_goals (exact BindsTo.of_eq rfl)
  any_goals (exact locs rfl)
  any_goals (first | rfl | decide)
  · exact List.forall_mem_nil _
  intro g h₁ hg1 hg2 F N B'
  have gv := dv_g hg1 (List.forall_mem_nil _) hv
  have X := B'.X
  obtain ⟨p, loose, mean, mg, mb, Tp⟩ := B'.T
  obtain ⟨av, vs, nv, hva, hvs⟩ := dvt gv
  obtain ⟨v0, v1, v2, d0, d1, d2⟩ := dvs3 hvs
  obtain ⟨t0, rfl⟩ := dvstr d0
  have hva : g.get? av = some (tupOf [.str (Str.ofString "perform") t0, v1, v2] nv) := hva
  clear kp B hg2 hrm hv gv
  k_steps
  all_goals (try dsimp only)
  k_extra "og_peel"
  rename_i d' h' o' F' N' l1' lo' hs' fs' hi' fi'
  refine h _ _ _ [] (kp_fin hg1 F' (List.forall_mem_nil _) (Nat.le_refl _)) ?_ lo' (Heap.dictOf_iff.mpr ⟨o', (N' _ (.head _)).1, hs'⟩) .nil
  cases e : s.heap.get? d' with
  | none => rfl
  | some o => have e1 := (N' _ (.head _)).2.2; rw [hg1 _ _ e List.not_mem_nil] at e1; cases e1
theorem br_b0 {prog : Program} {w : World} {A : Around} {s : Shared} {G : Heap} {R : Result → Shared → Prop} {v : Value} {mk : Str} {a : Rf} {x y : List St} (B : Base w G) (kp : G.StaysIn s.heap)
    (hv : Dv (Hv s.heap) v ((St.br 0 a x y).toD mk)) (hA : A.handled = none) (hd : A.depth + 10 < 800) (hu : A.units + 20 < 4500)
    (h : ∀ h' tk' D kvs, Kp [] s.heap h' → s.heap.get? D = none → (D == sysModules) = false → h'.DictOf (PySem.strKind prog w) D kvs → Rows (Hv h') kvs ((St.br 0 a x y).due mk) → R (.ok (.ret (.ref D))) { s with heap := h', toks := tk' }) :
    codeAny (model prog w) A (.call (.ref 20) ⟨[v], []⟩) R s := by
  have hrm : A.depth < recursionLimit := Nat.lt_trans (by first | exact Nat.lt_of_le_of_lt (Nat.le_add_right _ _) (Nat.lt_trans hd (by decide)) | exact Nat.lt_of_le_of_lt hd (by decide) | lia) (show 800 < recursionLimit by decide)
  rw [St.toD.eq_5, brHead0] at hv
  simp only [sS, List.cons_append, List.nil_append] at hv
  refine' enter (binds := [(Str.ofString "statement", v)]) B kp [] ?_ ?_ ?_ hrm ?_ ?_ ?_ ?_ ?_ ?_ ?_
  any_goals k_is
  any_goals (exact BindsTo.of_eq rfl)
  any_goals (exact locs rfl)
  any_goals (first | rfl | decide)
  · exact List.forall_mem_nil _
  intro g h₁ hg1 hg2 F N B'
  have gv := dv_g hg1 (List.forall_mem_nil _) hv
  have X := B'.X
  obtain ⟨p, loose, mean, mg, mb, Tp⟩ := B'.T
  obtain ⟨av, vs, nv, hva, hvs⟩ := dvt gv
  obtain ⟨v0, v1, v2, v3, v4, v5, d0, d1, d2, d3, d4, d5⟩ := dvs6 hvs
  obtain ⟨t0, rfl⟩ := dvstr d0
  obtain ⟨wv, ws, nw, hvw, hws⟩ := dvt d5
  obtain ⟨w0, w1, e0, e1⟩ := dvs2 hws
  obtain ⟨p0, q0, m0, hp0, hq0⟩ := dvt e0
  obtain ⟨a0, b0, f0, g0⟩ := dvs2 hq0
  obtain ⟨p1, q1, m1, hp1, hq1⟩ := dvt e1
  obtain ⟨a1, b1, f1, g1⟩ := dvs2 hq1
  obtain ⟨t1, rfl⟩ := dvstr f0
  obtain ⟨t2, rfl⟩ := dvstr f1
  have hvw : g.get? wv = some (tupOf [.ref p0, .ref p1] nw) := hvw
  have hp0 : g.get? p0 = some (tupOf [.str (Str.ofString "end") t1, b0] m0) := hp0
  have hp1 : g.get? p1 = some (tupOf [.str (Str.ofString "not end") t2, b1] m1) := hp1
  have hva : g.get? av = some (tupOf [.str (Str.ofString "read") t0, v1, v2, v3, v4, .ref wv] nv) := hva
  clear kp B hg2 hrm hv gv hq0 hq1 hws hvs
  k_steps
  all_goals (try dsimp only)
  refine ⟨[.ref p0, .ref p1].toArray, wv, [(Str.ofString "end", b0), (Str.ofString "not end", b1)], rfl, F, ⟨_, hvw, rfl, _, rfl⟩, Nat.le_of_ble_eq_true rfl, rfl, fun i v hv => ?_, fun D h' tk F' kk hD hm => ?_⟩
  · match i, hv with
    | 0, hv => cases hv; exact ⟨p0, _, t1, b0, rfl, ⟨_, hp0, rfl, _, rfl⟩, rfl⟩
    | 1, hv => cases hv; exact ⟨p1, _, t2, b1, rfl, ⟨_, hp1, rfl, _, rfl⟩, rfl⟩
  · have hL : s.heap.objs.size < D := Nat.lt_of_lt_of_le F.ns.lt hD
    have hM : sysModules < D := Nat.lt_of_lt_of_le (modules_low Tp.nolimit) (Nat.le_trans F.above (Nat.le_of_lt hL))
    refine h _ _ _ _ (kp_fin hg1 F' (List.forall_mem_nil _) (Nat.le_refl _)) (Heap.get?_none_of_le (Nat.le_of_lt hL)) (by simpa using Nat.ne_of_gt hM) hm ?_
    exact .cons (g0.mono fun a vs n e => F'.keep _ _ e) (.cons (g1.mono fun a vs n e => F'.keep _ _ e) .nil)
theorem br_b1 {prog : Program} {w : World} {A : Around} {s : Shared} {G : Heap} {R : Result → Shared → Prop} {v : Value} {mk : Str} {a : Rf} {x y : List St} (B : Base w G) (kp : G.StaysIn s.heap)
    (hv : Dv (Hv s.heap) v ((St.br 1 a x y).toD mk)) (hA : A.handled = none) (hd : A.depth + 10 < 800) (hu : A.units + 20 < 4500)
    (h : ∀ h' tk' D kvs, Kp [] s.heap h' → s.heap.get? D = none → (D == sysModules) = false → h'.DictOf (PySem.strKind prog w) D kvs → Rows (Hv h') kvs ((St.br 1 a x y).due mk) → R (.ok (.ret (.ref D))) { s with heap := h', toks := tk' }) :
    codeAny (model prog w) A (.call (.ref 20) ⟨[v], []⟩) R s := by
  have hrm : A.depth < recursionLimit := Nat.lt_trans (by first | exact Nat.lt_of_le_of_lt (Nat.le_add_right _ _) (Nat.lt_trans hd (by decide)) | exact Nat.lt_of_le_of_lt hd (by decide) | lia) (show 800 < recursionLimit by decide)
  rw [St.toD.eq_5, brHead1] at hv
  simp only [sS, List.cons_append, List.nil_append] at hv
  refine' enter (binds := [(Str.ofString "statement", v)]) B kp [] ?_ ?_ ?_ hrm ?_ ?_ ?_ ?_ ?_ ?_ ?_
  any_goals k_is
  any_goals (exact BindsTo.of_eq rfl)
  any_goals (exact locs rfl)
  any_goals (first | rfl | decide)
  · exact List.forall_mem_nil _
  intro g h₁ hg1 hg2 F N B'
  have gv := dv_g hg1 (List.forall_mem_nil _) hv
  have X := B'.X
  obtain ⟨p, loose, mean, mg, mb, Tp⟩ := B'.T
  obtain ⟨av, vs, nv, hva, hvs⟩ := dvt gv
  obtain ⟨v0, v1, v2, v3, d0, d1, d2, d3⟩ := dvs4 hvs
  obtain ⟨t0, rfl⟩ := dvstr d0
  obtain ⟨wv, ws, nw, hvw, hws⟩ := dvt d3
  obtain ⟨w0, w1, e0, e1⟩ := dvs2 hws
  obtain ⟨p0, q0, m0, hp0, hq0⟩ := dvt e0
  obtain ⟨a0, b0, f0, g0⟩ := dvs2 hq0
  obtain ⟨p1, q1, m1, hp1, hq1⟩ := dvt e1
  obtain ⟨a1, b1, f1, g1⟩ := dvs2 hq1
  obtain ⟨t1, rfl⟩ := dvstr f0
  obtain ⟨t2, rfl⟩ := dvstr f1
  have hvw : g.get? wv = some (tupOf [.ref p0, .ref p1] nw) := hvw
  have hp0 : g.get? p0 = some (tupOf [.str (Str.ofString "end") t1, b0] m0) := hp0
  have hp1 : g.get? p1 = some (tupOf [.str (Str.ofString "not end") t2, b1] m1) := hp1
  have hva : g.get? av = some (tupOf [.str (Str.ofString "call") t0, v1, v2, .ref wv] nv) := hva
  clear kp B hg2 hrm hv gv hq0 hq1 hws hvs
  k_steps
  all_goals (try dsimp only)
  refine ⟨[.ref p0, .ref p1].toArray, wv, [(Str.ofString "end", b0), (Str.ofString "not end", b1)], rfl, F, ⟨_, hvw, rfl, _, rfl⟩, Nat.le_of_ble_eq_true rfl, rfl, fun i v hv => ?_, fun D h' tk F' kk hD hm => ?_⟩
  · match i, hv with
    | 0, hv => cases hv; exact ⟨p0, _, t1, b0, rfl, ⟨_, hp0, rfl, _, rfl⟩, rfl⟩
    | 1, hv => cases hv; exact ⟨p1, _, t2, b1, rfl, ⟨_, hp1, rfl, _, rfl⟩, rfl⟩
  · have hL : s.heap.objs.size < D := Nat.lt_of_lt_of_le F.ns.lt hD
    have hM : sysModules < D := Nat.lt_of_lt_of_le (modules_low Tp.nolimit) (Nat.le_trans F.above (Nat.le_of_lt hL))
    refine h _ _ _ _ (kp_fin hg1 F' (List.forall_mem_nil _) (Nat.le_refl _)) (Heap.get?_none_of_le (Nat.le_of_lt hL)) (by simpa using Nat.ne_of_gt hM) hm ?_
    exact .cons (g0.mono fun a vs n e => F'.keep _ _ e) (.cons (g1.mono fun a vs n e => F'.keep _ _ e) .nil)
theorem br_b2 {prog : Program} {w : World} {A : Around} {s : Shared} {G : Heap} {R : Result → Shared → Prop} {v : Value} {mk : Str} {k : Int} {a : Rf} {x y : List St} (h0 : k ≠ 0) (h1 : k ≠ 1) (B : Base w G) (kp : G.StaysIn s.heap)
    (hv : Dv (Hv s.heap) v ((St.br k a x y).toD mk)) (hA : A.handled = none) (hd : A.depth + 10 < 800) (hu : A.units + 20 < 4500)
    (h : ∀ h' tk' D kvs, Kp [] s.heap h' → s.heap.get? D = none → (D == sysModules) = false → h'.DictOf (PySem.strKind prog w) D kvs → Rows (Hv h') kvs ((St.br k a x y).due mk) → R (.ok (.ret (.ref D))) { s with heap := h', toks := tk' }) :
    codeAny (model prog w) A (.call (.ref 20) ⟨[v], []⟩) R s := by
  have hrm : A.depth < recursionLimit := Nat.lt_trans (by first | exact Nat.lt_of_le_of_lt (Nat.le_add_right _ _) (Nat.lt_trans hd (by decide)) | exact Nat.lt_of_le_of_lt hd (by decide) | lia) (show 800 < recursionLimit by decide)
  rw [St.toD.eq_5, brHeadX h0 h1] at hv
  simp only [sS, List.cons_append, List.nil_append] at hv
  refine' enter (binds := [(Str.ofString "statement", v)]) B kp [] ?_ ?_ ?_ hrm ?_ ?_ ?_ ?_ ?_ ?_ ?_
  any_goals k_is
  any_goals (exact BindsTo.of_eq rfl)
  any_goals (exact locs rfl)
  any_goals (first | rfl | decide)
  · exact List.forall_mem_nil _
  intro g h₁ hg1 hg2 F N B'
  have gv := dv_g hg1 (List.forall_mem_nil _) hv
  have X := B'.X
  obtain ⟨p, loose, mean, mg, mb, Tp⟩ := B'.T
  obtain ⟨av, vs, nv, hva, hvs⟩ := dvt gv
  obtain ⟨v0, v1, v2, v3, d0, d1, d2, d3⟩ := dvs4 hvs
  obtain ⟨t0, rfl⟩ := dvstr d0
  obtain ⟨wv, ws, nw, hvw, hws⟩ := dvt d3
  obtain ⟨w0, w1, e0, e1⟩ := dvs2 hws
  obtain ⟨p0, q0, m0, hp0, hq0⟩ := dvt e0
  obtain ⟨a0, b0, f0, g0⟩ := dvs2 hq0
  obtain ⟨p1, q1, m1, hp1, hq1⟩ := dvt e1
  obtain ⟨a1, b1, f1, g1⟩ := dvs2 hq1
  obtain ⟨t1, rfl⟩ := dvstr f0
  obtain ⟨t2, rfl⟩ := dvstr f1
  have hvw : g.get? wv = some (tupOf [.ref p0, .ref p1] nw) := hvw
  have hp0 : g.get? p0 = some (tupOf [.str (Str.ofString "end") t1, b0] m0) := hp0
  have hp1 : g.get? p1 = some (tupOf [.str (Str.ofString "not end") t2, b1] m1) := hp1
  have hva : g.get? av = some (tupOf [.str (Str.ofString "search-all") t0, v1, v2, .ref wv] nv) := hva
  clear kp B hg2 hrm hv gv hq0 hq1 hws hvs
  k_steps
  all_goals (try dsimp only)
  refine ⟨[.ref p0, .ref p1].toArray, wv, [(Str.ofString "end", b0), (Str.ofString "not end", b1)], rfl, F, ⟨_, hvw, rfl, _, rfl⟩, Nat.le_of_ble_eq_true rfl, rfl, fun i v hv => ?_, fun D h' tk F' kk hD hm => ?_⟩
  · match i, hv with
    | 0, hv => cases hv; exact ⟨p0, _, t1, b0, rfl, ⟨_, hp0, rfl, _, rfl⟩, rfl⟩
    | 1, hv => cases hv; exact ⟨p1, _, t2, b1, rfl, ⟨_, hp1, rfl, _, rfl⟩, rfl⟩
  · have hL : s.heap.objs.size < D := Nat.lt_of_lt_of_le F.ns.lt hD
    have hM : sysModules < D := Nat.lt_of_lt_of_le (modules_low Tp.nolimit) (Nat.le_trans F.above (Nat.le_of_lt hL))
    refine h _ _ _ _ (kp_fin hg1 F' (List.forall_mem_nil _) (Nat.le_refl _)) (Heap.get?_none_of_le (Nat.le_of_lt hL)) (by simpa using Nat.ne_of_gt hM) hm ?_
    exact .cons (g0.mono fun a vs n e => F'.keep _ _ e) (.cons (g1.mono fun a vs n e => F'.keep _ _ e) .nil)
theorem branches_spec {prog : Program} {w : World} {A : Around} {s : Shared} {G : Heap} {R : Result → Shared → Prop} {v : Value} {mk : Str} {st : St} (B : Base w G) (kp : G.StaysIn s.heap)
    (hv : Dv (Hv s.heap) v (st.toD mk)) (hA : A.handled = none) (hd : A.depth + 10 < 800) (hu : A.units + 20 < 4500)
    (h : ∀ h' tk' D kvs, Kp [] s.heap h' → s.heap.get? D = none → (D == sysModules) = false → h'.DictOf (PySem.strKind prog w) D kvs → Rows (Hv h') kvs (st.due mk) → R (.ok (.ret (.ref D))) { s with heap := h', toks := tk' }) :
    codeAny (model prog w) A (.call (.ref 20) ⟨[v], []⟩) R s := by
  cases st with
  | mv a b => exact br_mv B kp hv hA hd hu h
  | iff a b x y => exact br_iff B kp hv hA hd hu h
  | ev a x y z => exact br_ev B kp hv hA hd hu h
  | pf a b c x => exact br_pf B kp hv hA hd hu h
  | br k a x y =>
    by_cases h0 : k = 0
    · subst h0; exact br_b0 B kp hv hA hd hu h
    · by_cases h1 : k = 1
      · subst h1; exact br_b1 B kp hv hA hd hu h
      · exact br_b2 h0 h1 B kp hv hA hd hu h
theorem rulesOgMadeM : True := by
  w_top off
  k_with_none
  k_with "spliced" => ((with_reducible show wpAny _ _ (spliced (backTo _ (starEach (_ :: _) _))) _ _ _); k_dflt (refine' args_at ?ogF ?ogk ?ogv ?_; (case ogF => k_asm); (case ogk => rfl); (case ogv => rfl)); k_whole)
  k_with "eval Constant int" => refine int_at ?_
  k_with "eval Constant str" => refine str_at ?_
  k_with "eval Call" => (k_dflt (first | (refine' callK_at ?ogF ?ogX ?ogT ?oge ?ogf ?ogk ?ogg ?ogd ?ogv ?_; (case ogX => k_asm); (case ogT => k_asm); (case oge => k_is); (case ogf => k_is); (case ogg => rfl); (case ogd => rfl); (case ogF => k_asm); (case ogk => rfl); (case ogv => rfl); k_whole) | (refine' callB_at ?ogF ?ogX ?ogT ?oge ?ogb ?ogi ?ogn ?ogk ?ogg ?ogd ?ogv ?_; (case ogX => k_asm); (case ogT => k_asm); (case oge => k_is); (case ogb => boot_fast); (case ogi => rfl); (case ogn => decide); (case ogg => rfl); (case ogd => rfl); (case ogF => k_asm); (case ogk => rfl); (case ogv => rfl); k_whole)))
  k_with "eval Subscript" => (k_dflt (refine' sub_at ?ogF ?ogk ?ogv ?ogw ?_; (case ogF => k_asm); (case ogk => rfl); (case ogv => rfl); (case ogw => rfl)); k_whole)
  k_with "ite" => (k_closed; k_dflt (first | refine iteT rfl ?_ | refine iteF rfl ?_))
  k_with "isTrue Compare" => (k_dflt (refine' cmp_at ?ogF ?ogk ?ogv ?ogw ?ogb ?_; (case ogF => k_asm); (case ogk => rfl); (case ogv => rfl); (case ogw => rfl); (case ogb => rfl)); k_whole)
  k_with "execs cons" => ((with_reducible refine wpAny_execs_cons ?_); (try dsimp only); (try clear qk ek); (try k_fold))
  k_with "og_mem" => first | with_reducible assumption | (refine memI ?_; with_reducible assumption) | (refine List.mem_append_right _ ?_; k_mem) | (refine List.mem_append_left _ ?_; k_mem)
  k_with "og_neo" => first | exact neLt (by assumption) (by k_mem) | exact neGt (by assumption) (by k_mem) | (refine neN ?_; (try dsimp only); lia)
  k_with "og_ne" => first | assumption | exact Ne.symm (by assumption) | (k_extra "og_neo")
  k_with "og_all" => first | assumption | exact neAll (by assumption) (fun _ h => h) | exact neAll (by assumption) (by intro p hp; k_mem) | exact off1 (by assumption) (by assumption) | exact LCg_lt (by assumption) | exact offL (by assumption) (by k_mem) | exact off_tup (by assumption) (by assumption) (by intro p hp; k_mem) (by k_mem) | (refine List.forall_mem_append.mpr ⟨?_, ?_⟩ <;> k_all) | exact off1 (by assumption) (by lia)
  k_with "og_d" => first | exact dlt hd rfl rfl | exact dlt0 hd rfl rfl | exact dle hd rfl rfl | exact dle0 hd rfl rfl | exact dlq hd rfl rfl | exact dlq0 hd rfl rfl | exact dmk hd rfl | exact drk hd rfl | exact drk0 hd rfl | (simp only [depth_deeper, depth_in1]; lia)
  k_with "og_u" => first | exact dlt hu rfl rfl | exact dlt0 hu rfl rfl | exact dle hu rfl rfl | exact dle0 hu rfl rfl | exact dlq hu rfl rfl | exact dlq0 hu rfl rfl | exact umk hu rfl | exact urk hu rfl | exact urk0 hu rfl | (simp only [units_deeper, units_in1]; lia)
  k_with "og_lt" => first | with_reducible assumption | lia
  k_with "og_n" => first | assumption | exact Ne.symm (by assumption) | (k_extra "og_neo")
  k_with "og_peel" => ((try dsimp +zetaDelta only [List.nil_append, List.cons_append] at *); (repeat (first | clear ledk | clear mk | clear qk | clear ek)))
  k_with "og_rest" => (repeat' (first | exact Rest.nil | (refine' Rest.skip ?ogr1 ?_; (case ogr1 => k_mem)) | (refine' Rest.keep ?ogr1 ?_; (case ogr1 => first | exact al5 (by k_extra "og_n") (by k_extra "og_n") (by k_extra "og_n") (by k_extra "og_n") (by k_extra "og_n") | exact al3 (by k_extra "og_n") (by k_extra "og_n") (by k_extra "og_n") | (repeat' (first | exact List.forall_mem_nil _ | (refine List.forall_mem_cons.mpr ⟨?_, ?_⟩) | assumption | exact Ne.symm (by assumption) | (k_extra "og_neo"))))) | (refine' Rest.app ?ogr1 ?_; (case ogr1 => assumption)) | (refine' Rest.tail ?ogr1; (case ogr1 => assumption)) | (refine' Rest.offApp ?ogr1 ?_; (case ogr1 => first | assumption | exact off5 (by assumption) (by k_extra "og_lt") (by k_extra "og_lt") (by k_extra "og_lt") (by k_extra "og_lt") (by k_extra "og_lt") | exact off2 (by assumption) (by k_extra "og_lt") (by k_extra "og_lt") (by k_extra "og_lt"))) | (refine' Rest.off ?ogr1; (case ogr1 => first | assumption | exact off5 (by assumption) (by k_extra "og_lt") (by k_extra "og_lt") (by k_extra "og_lt") (by k_extra "og_lt") (by k_extra "og_lt") | exact off2 (by assumption) (by k_extra "og_lt") (by k_extra "og_lt") (by k_extra "og_lt")))))
  k_with "og_klt" => skip
  k_with "newTuple" => (k_dflt (refine' newtup_le ?ogF ?ogN ?_ ?ogz; (case ogF => k_asm); (case ogN => k_asm); (case ogz => kmk_size)); intro _ _ ledk _ _ l1; (try skip); (try k_sweep); (try (revert l1; intros)))
  k_with "eval Tuple" => (k_dflt (refine' tup_le ?ogF ?ogN ?ogk ?ogv ?ogz ?_; (case ogN => k_asm); (case ogF => k_asm); (case ogk => rfl); (case ogv => rfl); (case ogz => kmk_size)); k_whole; intro _ _ ledk _ _ l1; (try skip); (try k_sweep); (try (revert l1; intros)))
  k_with "storeName" => (k_dflt (refine' store_le ?ogF ?ogN ?_ ?oga ?ogb; (case ogF => k_asm); (case ogN => k_asm); (case oga => rfl); (case ogb => rfl)); k_whole; intro _ mk _ _; (try k_sweep))
  k_with "call builtin:list.append" => ((with_reducible show wpAny _ _ (call (Value.builtin _) [Value.ref _, _]) _ _ _); k_dflt (refine' append_le ?ogF ?ogN ?ogU ?_ ?ogz; (case ogF => k_asm); (case ogN => k_asm); (case ogU => k_upd); (case ogz => ((try simp only [List.length_append, List.length_cons, List.length_nil]); lia))); k_whole; intro _ ledk _ _; (try k_sweep))
  k_with "call builtin:len" => (k_dflt (refine' len_i ?ogk1 ?ogk2 ?ogk3 ?ogk4 ?_; (case ogk1 => k_asm); (case ogk2 => k_mem); (case ogk3 => with_reducible assumption); (case ogk4 => lia); k_whole); intro _ _; (try dsimp only))
  k_with "setItem ref int" => (k_dflt (refine' set_l ?ogk1 ?ogk2 ?ogk3 ?ogk4 ?ogk5 ?ogk6 ?ogk7 ?_; (case ogk1 => k_asm); (case ogk2 => k_asm); (case ogk3 => k_upd); (case ogk4 => rfl); (case ogk5 => decide); (case ogk6 => decide); (case ogk7 => (simp only [List.length_cons, List.length_nil]; decide)); k_whole); intro _ _ _; (try dsimp only [List.set]); (try k_sweep))
  k_with "call ref" => (k_dflt (refine' call_draw ?ogb1 ?ogb2 ?ogb3 ?ogb4 ?ogb5 ?ogb6 ?ogb7 ?ogb8 ?ogb9 ?ogc1 ?ogc2 ?ogc3 ?ogc4 ?ogc5 ?_; (case ogb1 => assumption); (case ogb2 => k_asm); (case ogb3 => k_asm); (case ogb4 => k_mem); (case ogb5 => k_mem); (case ogb6 => with_reducible assumption); (case ogb7 => assumption); (case ogb8 => repeat' (first | exact Rest.nil | (refine' Rest.skip ?ogr1 ?_; (case ogr1 => k_mem)) | (refine' Rest.keep ?ogr1 ?_; (case ogr1 => (repeat' (first | exact List.forall_mem_nil _ | (refine List.forall_mem_cons.mpr ⟨?_, ?_⟩) | assumption | exact Ne.symm (by assumption) | (k_extra "og_neo"))))) | (refine' Rest.app ?ogr1 ?_; (case ogr1 => assumption)) | (refine' Rest.tail ?ogr1; (case ogr1 => assumption)) | (refine' Rest.offApp ?ogr1 ?_; (case ogr1 => assumption)) | (refine' Rest.off ?ogr1; (case ogr1 => assumption)))); (case ogb9 => k_asm); (case ogc1 => (k_extra "og_d")); (case ogc2 => (k_extra "og_u")); (case ogc3 => lia); (case ogc4 => ((try simp only [dnew_t]); lia)); (case ogc5 => first | exact .inl rfl | exact .inr rfl); k_whole); intro _ _ _ _ _ _ _ _ _ _ _ _ _; (try dsimp only); (try k_sweep))
  k_with "subscriptTail" => ((with_reducible show wpAny _ _ (subscriptTail _ _ (Value.ref _) (Value.int (-1) _)) _ _ _); k_dflt (refine' last_l ?ogk1 ?ogk2 ?ogk3 ?_ ?ogk4; (case ogk1 => k_asm); (case ogk2 => k_mem); (case ogk3 => lia); (case ogk4 => with_unfolding_all rfl); k_whole))
  k_with "call ref" => (k_dflt (refine' call_ref ?ogb0 ?ogb1 ?ogb2 ?ogb3 ?ogb4 ?ogb5 ?ogbR ?ogb6 ?ogb7 ?ogb8 ?ogbl ?ogb9 ?ogc1 ?ogc2 ?ogc3 ?ogd1 ?ogd2 ?ogc4 ?ogc5 ?ogc6 ?ogc7 ?_; (case ogb0 => assumption); (case ogb1 => assumption); (case ogb2 => k_asm); (case ogb3 => k_asm); (case ogc7 => first | exact .inl ⟨by lia, rfl⟩ | exact .inr ⟨rfl, rfl⟩); (case ogb4 => k_mem); (case ogb5 => k_mem); (case ogbR => k_mem); (case ogb6 => with_reducible assumption); (case ogb7 => assumption); (case ogb8 => (k_extra "og_rest")); (case ogbl => first | lia | (simp only [List.length_nil]; lia)); (case ogb9 => k_asm); (case ogc1 => (k_extra "og_d")); (case ogc2 => (k_extra "og_u")); (case ogc3 => (k_extra "og_neo")); (case ogd1 => (k_extra "og_neo")); (case ogd2 => (k_extra "og_neo")); (case ogc4 => ((try simp only [dnew_t]); lia)); (case ogc5 => assumption); (case ogc6 => lia); k_whole); intro h' tk' tk2 n' n2' vs' imm r nvs nR' F' ct lo N' hi ok' dv hnl; clear lo; (try dsimp only); (try simp only [List.cons_append, List.nil_append, List.append_assoc] at N'); (try k_sweep); (try (revert h' tk' tk2 n' n2' vs' imm r nvs nR' F' ct N' hi ok' dv hnl; intros)))
  k_with "call builtin:list.extend" => (k_dflt (refine' ext_l ?ogF ?ogN ?ogb ?ogU ?ogz ?_; (case ogF => k_asm); (case ogN => k_asm); (case ogb => k_mem); (case ogU => k_upd); (case ogz => ((try simp only [List.length_append, List.length_cons, List.length_nil]); lia)); k_whole); intro h' F' N'; (try dsimp only); (try k_sweep); (try (revert h' F' N'; intros)))
  k_with "call ref" => (k_dflt (refine' call_made ?ogb0 ?ogb1 ?ogb2 ?ogb3 ?oghT ?oghC ?oghN ?ogh0 ?ogh1 ?ogh2 ?oghv ?ogok ?ognd ?oghr ?ogl0 ?ogl1 ?ogl2 ?ogt ?ogmk ?oghA ?oghd ?oghu ?_; (case ogb0 => assumption); (case ogb1 => assumption); (case ogb2 => k_asm); (case ogb3 => k_asm); (case oghT => k_mem); (case oghC => k_mem); (case oghN => k_mem); (case ogh0 => k_mem); (case ogh1 => k_mem); (case ogh2 => k_mem); (case oghv => with_reducible assumption); (case ogok => assumption); (case ognd => assumption); (case oghr => first | assumption | (k_extra "og_rest")); (case ogl0 => ((try simp only [List.length_append, List.length_cons, List.length_nil]); lia)); (case ogl1 => ((try simp only [List.length_append, List.length_cons, List.length_nil]); lia)); (case ogl2 => ((try simp only [List.length_append, List.length_cons, List.length_nil]); lia)); (case ogt => ((try simp only [dnew_t]); lia)); (case ogmk => assumption); (case oghA => k_asm); (case oghd => (k_extra "og_d")); (case oghu => (k_extra "og_u")); k_whole); intro h' tk' r vs0 vs1 vs2 fz imm vs' tk2 n n' n0' n1' n2' F' ct hi ok' N' lo lo2 lz dv0 dv1 dv2; clear lo lo2; (try dsimp only); (try simp only [List.cons_append, List.nil_append, List.append_assoc] at N'); (try k_sweep); (try (revert h' tk' r vs0 vs1 vs2 fz imm vs' tk2 n n' n0' n1' n2' F' ct hi ok' N' lz dv0 dv1 dv2; intros)))
  k_with "call ref" => (k_dflt (refine' call_body_le ?ogb0 ?ogb1 ?ogb2 ?ogb3 ?oghT ?oghC ?oghN ?ogh0 ?ogh1 ?ogh2 ?oghv ?ogok ?ognd ?oghr ?ogl0 ?ogl1 ?ogl2 ?ogt ?ogmk ?oghA ?oghd ?oghu ?ogdp ?ogho ?_;  (case ogb0 => assumption); (case ogb1 => assumption); (case ogb2 => k_asm); (case ogb3 => k_asm); (case oghT => k_mem); (case oghC => k_mem); (case oghN => k_mem); (case ogh0 => k_mem); (case ogh1 => k_mem); (case ogh2 => k_mem); (case oghv => with_reducible assumption); (case ogok => assumption); (case ognd => assumption); (case oghr => first | assumption | (k_extra "og_rest")); (case ogl0 => ((try simp only [List.length_append, List.length_cons, List.length_nil]); lia)); (case ogl1 => ((try simp only [List.length_append, List.length_cons, List.length_nil]); lia)); (case ogl2 => ((try simp only [List.length_append, List.length_cons, List.length_nil]); lia)); (case ogt => ((try simp only [dnew_t]); lia)); (case ogmk => assumption); (case oghA => k_asm); (case oghd => (k_extra "og_d")); (case oghu => (k_extra "og_u")); (case ogdp => lia); (case ogho => (intro t; (try simp only [List.cons_append, List.nil_append, List.append_assoc]); (try rfl))); k_whole); intro _ _ _ _ _ _ _ _ _ _ _ _ _ _ _ ledk _ _ _ _ _ _ _ _ _ _ _ _ _ _; (try k_sweep))
  k_with "call ref" => (k_dflt (refine' call_ref3_le ?ogb0 ?ogb1 ?ogb2 ?ogb3 ?ogb4 ?ogb5 ?ogbR ?ogb6 ?ogb7 ?ogb8 ?ogbl ?ogb9 ?ogc1 ?ogc2 ?ogc3 ?ogd1 ?ogd2 ?ogc4 ?ogc5 ?ogho ?_;  (case ogb0 => assumption); (case ogb1 => assumption); (case ogb2 => k_asm); (case ogb3 => k_asm); (case ogb4 => k_mem); (case ogb5 => k_mem); (case ogbR => k_mem); (case ogb6 => with_reducible assumption); (case ogb7 => assumption); (case ogb8 => (k_extra "og_rest")); (case ogbl => ((try simp only [List.length_append, List.length_cons, List.length_nil]); lia)); (case ogb9 => k_asm); (case ogc1 => (k_extra "og_d")); (case ogc2 => (k_extra "og_u")); (case ogc3 => k_ne); (case ogd1 => k_ne); (case ogd2 => k_ne); (case ogc4 => ((try simp only [dnew_t]); lia)); (case ogc5 => assumption); (case ogho => (intro t; (try simp only [List.cons_append, List.nil_append, List.append_assoc]); (try rfl))); k_whole); intro _ _ _ _ _ _ _ _ _ _ ledk _ _ _ _ _ _ _ _; (try k_sweep))
  k_with "call builtin:len" => (k_dflt (refine' len_l ?ogk1 ?ogk2 ?ogk4 ?_; (case ogk1 => k_asm); (case ogk2 => k_mem); (case ogk4 => (simp only [List.size_toArray, List.length_append, List.length_cons, List.length_nil]; (have hsl9 : sizeLine = 2 ^ 24 := rfl); lia)); k_whole); intro _ _; (try simp only [List.size_toArray]); (try dsimp only))
  k_with "setItem ref int" => (k_dflt (refine' set_mid ?ogk1 ?ogk2 ?ogk3 ?ogk4 ?ogk5 ?_; (case ogk1 => k_asm); (case ogk2 => k_asm); (case ogk3 => k_upd); (case ogk4 => first | rfl | lia); (case ogk5 => lia); k_whole); intro h' F' N'; (try dsimp only); (try k_sweep); (try (revert h' F' N'; intros)))
  k_with "newList" => (k_dflt (refine' newList_L ?ogk1 ?ogk2 ?_ ?ogk3; (case ogk1 => k_asm); (case ogk2 => k_asm); (case ogk3 => (simp only [List.length_cons, List.length_nil]; decide)); k_whole); intro l' h' F' N' l1 l2; (try k_lt l1); (try k_lt2 l2); (try k_sweep); (try (revert l' h' F' N' l1 l2; intros)))
  k_with "call builtin:list.append" => (k_dflt (refine' append_l ?ogk1 ?ogk2 ?ogk3 ?ogz ?_; (case ogk1 => k_asm); (case ogk2 => k_asm); (case ogk3 => k_upd); (case ogz => ((try simp only [List.length_append, List.length_cons, List.length_nil]); lia)); k_whole); intro h' F' N'; (try simp only [List.cons_append, List.nil_append, List.append_assoc] at N'); (try dsimp only); (try k_sweep); (try (revert h' F' N'; intros)))
  k_with "subscriptTail" => ((with_reducible show wpAny _ _ (subscriptTail _ _ (Value.ref _) (Value.int (dval 3 _) _)) _ _ _); k_dflt (refine' pick3 ?ogk1 ?ogk2 ?ogk3 ?ogk4 ?_ ?_ ?_ ?ogk5; (case ogk1 => k_asm); (case ogk2 => k_mem); (case ogk3 => first | assumption | lia); (case ogk4 => first | assumption | lia); (case ogk5 => (intro k u; with_unfolding_all rfl)); k_whole); intro _)
  k_with "binaryOp Add ref ref" => (k_dflt (refine' addL ?ogk1 ?ogk2 ?ogk3 ?ogk4 ?ogk5 ?_; (case ogk1 => k_asm); (case ogk2 => k_asm); (case ogk3 => k_mem); (case ogk4 => k_mem); (case ogk5 => ((try simp only [List.length_append, List.length_cons, List.length_nil]); lia)); k_whole); intro l' h' F' N' l1 l2; (try k_lt l1); (try k_lt2 l2); (try k_sweep); (try (revert l' h' F' N' l1 l2; intros)))
  k_with "execs cons" => ((with_reducible show wpAny _ _ (execs (Stmt.Assign [Expr.Subscript _ _ _] _ _ :: _) _) _ _ _); k_dflt (refine Stop.mk ?_))
  k_with "binaryOp Add ref ref" => (k_dflt (refine' addT_l ?ogF ?ogN ?oga ?ogb ?ogv ?ogw ?ogz ?_; (case ogF => k_asm); (case ogN => k_asm); (case oga => k_mem); (case ogb => k_mem); (case ogv => exact List.cons_ne_nil _ _); (case ogw => exact List.cons_ne_nil _ _); (case ogz => exact Nat.le_of_ble_eq_true rfl)); k_whole; intro _ _ ledk _ _ _; (try k_sweep))
  trivial
-- the call of _law_draw
-- the call of _law_ref
-- the calls of _law_made, _law_body
theorem fr5 {g h : Heap} {L : Nat} {m : Str → Option Value} (F : Fr g L h m) {a b c d e : Str} {x y z u v : Value} (ha : m a = some x) (hb : m b = some y) (hc : m c = some z) (hd : m d = some u) (he : m e = some v) : Fr g L h (fun q => if q = e then some v else if q = a then some x else if q = b then some y else if q = c then some z else if q = d then some u else m q) := by
  have q : (fun q => if q = e then some v else if q = a then some x else if q = b then some y else if q = c then some z else if q = d then some u else m q) = (fun q => if q = a then some x else if q = b then some y else if q = c then some z else if q = d then some u else m q) := by
    funext q
    by_cases h1 : q = e
    · rw [if_pos h1, h1]
      by_cases h2 : e = a
      · rw [if_pos h2, ← ha, ← h2, he]
      · rw [if_neg h2]
        by_cases h3 : e = b
        · rw [if_pos h3, ← hb, ← h3, he]
        · rw [if_neg h3]
          by_cases h4 : e = c
          · rw [if_pos h4, ← hc, ← h4, he]
          · rw [if_neg h4]
            by_cases h5 : e = d
            · rw [if_pos h5, ← hd, ← h5, he]
            · rw [if_neg h5, he]
    · rw [if_neg h1]
  rw [q]; exact fr4 F ha hb hc hd
theorem ivm {g h : Heap} {L : Nat} {led imm : List (Addr × Obj)} (_ : News g L h led) (hs : ∀ p ∈ imm, p ∈ led) : ∀ a vs n, Iv imm a (tupOf vs n) → Iv led a (tupOf vs n) := fun _ _ _ q => hs _ q
theorem inl {g h : Heap} {L : Nat} {led : List (Addr × Obj)} {a : Addr} {o : Obj} (_ : News g L h led) (q : (a, o) ∈ led) : Iv led a o := q
theorem made_mid0 {prog : Program} {w : World}  (SR : RefSpec prog w 3) {A : Around} {s : Shared} {R : Result → Shared → Prop} {g h : Heap} {aT aC aN a0 a1 a2 n nc nN n0 n1 n2 tk tkk kt mt dt : Nat} {T : Tape} {v0 v1 v2 vs : List Value} {mark : Str} {oT oC oN o0 o1 o2 : Obj} {m : Str → Option Value}{D : Nat}
    (B' : Base w g) (F : Fr g s.heap.objs.size h m) (N : News g s.heap.objs.size h [(aT, listOf [.ref aC, .int T.t tk].toArray n), (aC, listOf vs.toArray nc), (aN, listOf [.ref a0, .ref a1, .ref a2].toArray nN), (a0, listOf v0.toArray n0), (a1, listOf v1.toArray n1), (a2, listOf v2.toArray n2)])
    (w1 : m (Str.ofString "tape") = some (.ref aT)) (w2 : m (Str.ofString "mark") = some (.str mark mt)) (w3 : m (Str.ofString "depth") = some (.int D dt)) (w4 : m (Str.ofString "notes") = some (.ref aN)) (w5 : m (Str.ofString "kind") = some (.int 0 kt))
    (hvs : IntsAre vs T.cells) (ok : TapeOk T) (nd : [aT, aC, aN, a0, a1, a2].Nodup) (z1 : aT < s.heap.objs.size) (z2 : aC < s.heap.objs.size) (z3 : aN < s.heap.objs.size) (z4 : a0 < s.heap.objs.size) (z5 : a1 < s.heap.objs.size) (z6 : a2 < s.heap.objs.size)
    (hl0 : v0.length + 1 ≤ 5000) (hl1 : v1.length + 1 ≤ 5000) (hl2 : v2.length + 1 ≤ 5000) (ht : T.t + 80 < 90000) (hmk : mark.length = 1) (hA : A.handled = none) (hd : A.depth < 860) (hu : A.units < 4800) (hNN : oN = listOf [.ref a0, .ref a1, .ref a2].toArray nN)
    (hg1 : ∀ b o, s.heap.get? b = some o → b ∉ ([(aT, oT), (aC, oC), (aN, oN), (a0, o0), (a1, o1), (a2, o2)] : List (Addr × Obj)).map (·.1) → g.get? b = some o) (hN : s.heap.get? aN = some oN)
    (hret : ∀ h' tk' r vs0 vs1 vs2 fz, Left s.heap h' aT aC aN a0 a1 a2 (refF 3 (refF 3 T).2).2 ⟨v0, v1, v2⟩ mark (r :: vs0) vs1 vs2 (St.mv (refF 3 T).1 (refF 3 (refF 3 T).2).1).pre (St.mv (refF 3 T).1 (refF 3 (refF 3 T).2).1).post fz → R (.ok (.ret r)) { s with heap := h', toks := tk' }) :
    CodeFrom 97 prog w 1 A s.heap.objs.size (endOf R) (fun _ _ => False) ⟨h, s.gens, s.drawn, tkk, s.os⟩ := by
  refine' withCode (w := w) (f := 97) ?ho0 ?_
  case ho0 => k_is
  intro ho
  obtain ⟨⟨u1, u2, u3, u4, u5⟩, ⟨u6, u7, u8, u9⟩, ⟨u10, u11, u12⟩, ⟨u13, u14⟩, u15⟩ := lists_nd nd
  have F1 := fr5 F w1 w2 w3 w4 w5
  have X := B'.X
  obtain ⟨p, loose, mean, mg, mb, Tp⟩ := B'.T
  clear F w1 w2 w3 w4 w5
  refine' CodeFrom.intro ?ho ?_
  case ho => k_is
  intro _
  simp only [List.drop_succ_cons, List.drop_zero]
  refine wpAny_execs_cons ?_
  try dsimp only
  k_steps
  all_goals (try dsimp only)
  · k_extra "og_peel"
    rename_i tk_0 a_0 t_0 tk_1 h'_0 h'_1 l'_0 h'_2 l1_0 l2_0 h'_3 h'_4 tk'_0 tk2_0 n'_0 n2'_0 vs'_0 imm_0 r_0 nvs_0 nR'_0 ct_0 hi_0 ok'_0 dv_0 hnl_0 htt_0 h'_5 D_0 h'_6 l1_1 h'_7 tk'_1 tk2_1 n'_1 n2'_1 vs'_1 imm_1 r_1 nvs_1 nR'_1 ct_1 hi_1 ok'_1 dv_1 hnl_1 htt_1 D_1 h'_8 l1_2 D_2 h'_9 l1_3 h'_10 a_1 a_2
    rename News _ _ _ _ => N9
    rename Fr _ _ _ _ => F9
    unfold Stop
    have nv0 := ivm N9 (imm := imm_0) (by intro p hp; k_mem)
    have nv1 := ivm N9 (imm := imm_1) (by intro p hp; k_mem)
    have dr0 := dv_0.mono nv0
    have dh0 := dv_head dr0
    have dr1 := dv_1.mono nv1
    have dh1 := dv_head dr1
    refine CodeFrom.out (made_tail (vs0 := []) (vs1 := []) (vs2 := []) (D' := D_2) (l' := l'_0) (fz := []) B' F9 N9 rfl rfl rfl rfl (by k_mem) (by k_mem) (by assumption) (by k_mem) (by k_mem) (by k_mem) (by k_mem) rfl (List.append_nil _).symm (List.append_nil _).symm (by k_mem) l2_0 nd z4 z5 z6 (St.pre.eq_1 _ _) ((St.post.eq_1 _ _).trans (List.nil_append _).symm) rfl hNN hret hg1 hN ?f1 ?f2 (by lia) ?y1 ?y2 ?x0 ?x1 ?x2 ?x3 ?x4) ho
    case f1 => exact fun p hp => nomatch hp
    case f2 => exact fun p hp => nomatch hp
    case y1 => simp only [List.length_nil]; lia
    case y2 => simp only [List.length_nil]; lia
    case x2 => rw [toDs.eq_1]; exact .nil
    case x3 => rw [toDs.eq_1]; exact .nil
    case x4 => exact .nil
    case x1 => show Dvs _ _ (List.map _ (_ ++ _)); rw [List.map_append]; exact dr0.append dr1
    case x0 =>
      simp only [St.toD, sS, numD, refB]
      repeat' (first
        | exact Dvs.nil | exact Dv.none | exact Dv.bool _ | exact Dv.bytes _ _ | exact Dv.str _ _ | exact Dv.int _ _ | assumption
        | refine Dvs.cons ?_ ?_
        | refine Dv.tup (inl N9 (by k_mem)) ?_)
theorem made_midk {prog : Program} {w : World} (d : Nat) (SB' : BodySpec prog w d) (hd3 : d + 1 ≤ 3) (SR : RefSpec prog w 3) {A : Around} {s : Shared} {R : Result → Shared → Prop} {g h : Heap} {aT aC aN a0 a1 a2 n nc nN n0 n1 n2 tk tkk kt mt dt : Nat} {T : Tape} {v0 v1 v2 vs : List Value} {mark : Str} {oT oC oN o0 o1 o2 : Obj} {m : Str → Option Value}
    (B' : Base w g) (F : Fr g s.heap.objs.size h m) (N : News g s.heap.objs.size h [(aT, listOf [.ref aC, .int (dnew 5 T).t tk].toArray n), (aC, listOf vs.toArray nc), (aN, listOf [.ref a0, .ref a1, .ref a2].toArray nN), (a0, listOf v0.toArray n0), (a1, listOf v1.toArray n1), (a2, listOf v2.toArray n2)])
    (w1 : m (Str.ofString "tape") = some (.ref aT)) (w2 : m (Str.ofString "mark") = some (.str mark mt)) (w3 : m (Str.ofString "depth") = some (.int ((d + 1 : Nat) : Int) dt)) (w4 : m (Str.ofString "notes") = some (.ref aN)) (w5 : m (Str.ofString "kind") = some (.int (dval 5 T) kt))
    (hvs : IntsAre vs (dnew 5 T).cells) (ok : TapeOk (dnew 5 T)) (nd : [aT, aC, aN, a0, a1, a2].Nodup) (z1 : aT < s.heap.objs.size) (z2 : aC < s.heap.objs.size) (z3 : aN < s.heap.objs.size) (z4 : a0 < s.heap.objs.size) (z5 : a1 < s.heap.objs.size) (z6 : a2 < s.heap.objs.size)
    (hlen : v0.length < 10) (k0 : dval 5 T ≠ 0) (k1 : 0 ≤ dval 5 T) (k2 : dval 5 T < 5) (hl0 : v0.length + cntAt (d + 1) ≤ 5000) (hl1 : v1.length + cntAt (d + 1) ≤ 5000) (hl2 : v2.length + cntAt (d + 1) ≤ 5000) (ht : T.t + drawsAt (d + 1) < 80000) (hmk : mark.length = 1) (hA : A.handled = none) (hd : A.depth + 5 * (d + 1) < 800) (hu : A.units + 20 * (d + 1) < 4500) (hNN : oN = listOf [.ref a0, .ref a1, .ref a2].toArray nN)
    (hg1 : ∀ b o, s.heap.get? b = some o → b ∉ ([(aT, oT), (aC, oC), (aN, oN), (a0, o0), (a1, o1), (a2, o2)] : List (Addr × Obj)).map (·.1) → g.get? b = some o) (hN : s.heap.get? aN = some oN)
    (hret : ∀ h' tk' r vs0 vs1 vs2 fz, Left s.heap h' aT aC aN a0 a1 a2 (madeF (d + 1) T v0.length).2 ⟨v0, v1, v2⟩ mark (r :: vs0) vs1 vs2 (madeF (d + 1) T v0.length).1.pre (madeF (d + 1) T v0.length).1.post fz → R (.ok (.ret r)) { s with heap := h', toks := tk' }) :
    CodeFrom 97 prog w 1 A s.heap.objs.size (endOf R) (fun _ _ => False) ⟨h, s.gens, s.drawn, tkk, s.os⟩ := by
  refine' withCode (w := w) (f := 97) ?ho0 ?_
  case ho0 => k_is
  intro ho
  obtain ⟨⟨u1, u2, u3, u4, u5⟩, ⟨u6, u7, u8, u9⟩, ⟨u10, u11, u12⟩, ⟨u13, u14⟩, u15⟩ := lists_nd nd
  have F1 := fr5 F w1 w2 w3 w4 w5
  have X := B'.X
  obtain ⟨p, loose, mean, mg, mb, Tp⟩ := B'.T
  clear F w1 w2 w3 w4 w5
  have hdp := draws_pos d
  have hcp := cnt_pos d
  have ht' : T.t + (30 + 3 * (1 + 2 * drawsAt d)) < 80000 := ht
  have hc' : cntAt (d + 1) = 1 + 6 * cntAt d := rfl
  rw [hc'] at hl0 hl1 hl2
  have e5 : (dnew 5 T).t = T.t + 1 := rfl
  have e6 : (dnew 3 (refF 3 (dnew 5 T)).2).t = (refF 3 (dnew 5 T)).2.t + 1 := rfl
  refine' CodeFrom.intro ?ho ?_
  case ho => k_is
  intro _
  simp only [List.drop_succ_cons, List.drop_zero]
  refine wpAny_execs_cons ?_
  try dsimp only
  k_steps
  all_goals (try dsimp only)
  · k_extra "og_peel"
    rename_i tk_0 a_0 t_0 tk_1 h'_0 h'_1 l'_0 h'_2 l1_0 l2_0 h'_3 h'_4 tk'_0 tk2_0 n'_0 n2'_0 vs'_0 imm_0 r_0 nvs_0 nR'_0 ct_0 hi_0 ok'_0 dv_0 hnl_0 htt_0 h'_5 a_1 h'_6 tk'_1 tk2_1 n'_1 n2'_1 vs'_1 imm_1 r_1 nvs_1 nR'_1 ct_1 hi_1 ok'_1 dv_1 hnl_1 htt_1 D_0 h'_7 l1_1 h'_8 h'_9 tk'_2 r_2 vs0_0 vs1_0 vs2_0 fz_0 imm_2 vs'_2 tk2_2 n_0 n'_2 n0'_0 n1'_0 n2'_2 ct_2 hi_2 ok'_2 lz_0 dv0_0 dv1_0 dv2_0 dvr_0 htt_2 hl0_0 hl1_0 hl2_0 h'_10 D_1 h'_11 l1_2 h'_12 tk'_3 r_3 vs0_1 vs1_1 vs2_1 fz_1 imm_3 vs'_3 tk2_3 n_1 n'_3 n0'_1 n1'_1 n2'_3 ct_3 hi_3 ok'_3 lz_1 dv0_1 dv1_1 dv2_1 dvr_1 htt_3 hl0_1 hl1_1 hl2_1 D_2 h'_13 l1_3 h'_14 a_2 a_3
    rename News _ _ _ _ => N9
    rename Fr _ _ _ _ => F9
    unfold Stop
    have hkind : dval 5 T = 1 := by lia
    rw [made_1 (n2 := (v0 ++ [Value.none] ++ vs0_0).length) hlen hkind len_none (by rw [List.append_assoc]; exact len_mid dv0_0)] at hret
    dsimp only at hret
    have nv0 := ivm N9 (imm := imm_0) (by intro p hp; k_mem)
    have nv1 := ivm N9 (imm := imm_1) (by intro p hp; k_mem)
    have nv2 := ivm N9 (imm := imm_2) (by intro p hp; k_mem)
    have nv3 := ivm N9 (imm := imm_3) (by intro p hp; k_mem)
    have dr0 := dv_0.mono nv0
    have dh0 := dv_head dr0
    have dr1 := dv_1.mono nv1
    have dh1 := dv_head dr1
    have p00 := dv0_0.mono nv2
    have p10 := dv1_0.mono nv2
    have p20 := dv2_0.mono nv2 (fun _ q => q)
    have pr0 := dvr_0.mono nv2
    have p01 := dv0_1.mono nv3
    have p11 := dv1_1.mono nv3
    have p21 := dv2_1.mono nv3 (fun _ q => q)
    have pr1 := dvr_1.mono nv3
    refine CodeFrom.out (made_tail (vs0 := (vs0_0 ++ vs0_1)) (vs1 := (vs1_0 ++ vs1_1)) (vs2 := (vs2_0 ++ vs2_1)) (D' := D_2) (l' := l'_0) (fz := (fz_0 ++ fz_1)) B' F9 N9 rfl rfl rfl rfl (by k_mem) (by k_mem) (by assumption) (by k_mem) (by k_mem) (by k_mem) (by k_mem) (by simp only [List.append_assoc, List.cons_append, List.nil_append]) (by simp only [List.append_assoc, List.cons_append, List.nil_append]) (by simp only [List.append_assoc, List.cons_append, List.nil_append]) (by k_mem) l2_0 nd z4 z5 z6 (St.pre.eq_2 _ _ _ _) (St.post.eq_2 _ _ _ _) rfl hNN hret hg1 hN ?f1 ?f2 (by lia) ?y1 ?y2 ?x0 ?x1 ?x2 ?x3 ?x4) ho
    case f1 => intro p hp; simp only [List.mem_append] at hp; rcases hp with hp | hp <;> simp only [List.mem_cons, List.mem_append, hp, true_or, or_true]
    case f2 => exact List.forall_mem_append.mpr ⟨lz_0, lz_1⟩
    case y1 => simp only [List.length_append]; lia
    case y2 => simp only [List.length_append]; lia
    case x2 => simp only [toDs_append]; exact (p00.append p01)
    case x3 => simp only [toDs_append]; exact (p10.append p11)
    case x4 => exact (((p20).mono (fun _ _ _ q => q) (fun p hp => by simp only [List.mem_append, hp, true_or, or_true])).append ((p21).mono (fun _ _ _ q => q) (fun p hp => by simp only [List.mem_append, hp, true_or, or_true])))
    case x1 => show Dvs _ _ (List.map _ (_ ++ _)); rw [List.map_append]; exact dr0.append dr1
    case x0 =>
      simp only [St.toD, sS, numD, refB]
      repeat' (first
        | exact Dvs.nil | exact Dv.none | exact Dv.bool _ | exact Dv.bytes _ _ | exact Dv.str _ _ | exact Dv.int _ _ | assumption
        | refine Dvs.cons ?_ ?_
        | refine Dv.tup (inl N9 (by k_mem)) ?_)
  · k_extra "og_peel"
    rename_i tk_0 a_0 t_0 tk_1 h'_0 h'_1 l'_0 h'_2 l1_0 l2_0 h'_3 h'_4 tk'_0 tk2_0 n'_0 n2'_0 vs'_0 imm_0 r_0 nvs_0 nR'_0 ct_0 hi_0 ok'_0 dv_0 hnl_0 htt_0 h'_5 a_1 a_2 h'_6 tk'_1 r_1 vs0_0 vs1_0 vs2_0 fz_0 imm_1 vs'_1 tk2_1 n_0 n'_1 n0'_0 n1'_0 n2'_1 ct_1 hi_1 ok'_1 lz_0 dv0_0 dv1_0 dv2_0 dvr_0 htt_1 hl0_0 hl1_0 hl2_0 h'_7 h'_8 tk'_2 r_2 vs0_1 vs1_1 vs2_1 fz_1 imm_2 vs'_2 tk2_2 n_1 n'_2 n0'_1 n1'_1 n2'_2 ct_2 hi_2 ok'_2 lz_1 dv0_1 dv1_1 dv2_1 dvr_1 htt_2 hl0_1 hl1_1 hl2_1 h'_9 D_0 h'_10 l1_1 D_1 h'_11 l1_2 D_2 h'_12 l1_3 D_3 h'_13 l1_4 D_4 h'_14 l1_5 D_5 h'_15 l1_6 D_6 h'_16 l1_7 D_7 h'_17 l1_8 D_8 h'_18 l1_9 D_9 h'_19 l1_10 h'_20 D_10 h'_21 l1_11 D_11 h'_22 l1_12 h'_23 tk'_3 r_3 vs0_2 vs1_2 vs2_2 fz_2 imm_3 vs'_3 tk2_3 n_2 n'_3 n0'_2 n1'_2 n2'_3 ct_3 hi_3 ok'_3 lz_2 dv0_2 dv1_2 dv2_2 dvr_2 htt_3 hl0_2 hl1_2 hl2_2 D_12 h'_24 l1_13 h'_25 a_3 a_4
    rename News _ _ _ _ => N9
    rename Fr _ _ _ _ => F9
    unfold Stop
    have hkind : dval 5 T = 2 := by lia
    rw [made_2 (n2 := (v0 ++ [Value.none] ++ vs0_0).length) (n3 := (v0 ++ [Value.none] ++ vs0_0 ++ vs0_1).length) hlen hkind len_none (by rw [List.append_assoc]; exact len_mid dv0_0) (by rw [List.append_assoc, List.append_assoc, List.singleton_append]; exact len_mid2 dv0_0 dv0_1)] at hret
    dsimp only at hret
    have nv0 := ivm N9 (imm := imm_0) (by intro p hp; k_mem)
    have nv1 := ivm N9 (imm := imm_1) (by intro p hp; k_mem)
    have nv2 := ivm N9 (imm := imm_2) (by intro p hp; k_mem)
    have nv3 := ivm N9 (imm := imm_3) (by intro p hp; k_mem)
    have dr0 := dv_0.mono nv0
    have dh0 := dv_head dr0
    have p00 := dv0_0.mono nv1
    have p10 := dv1_0.mono nv1
    have p20 := dv2_0.mono nv1 (fun _ q => q)
    have pr0 := dvr_0.mono nv1
    have p01 := dv0_1.mono nv2
    have p11 := dv1_1.mono nv2
    have p21 := dv2_1.mono nv2 (fun _ q => q)
    have pr1 := dvr_1.mono nv2
    have p02 := dv0_2.mono nv3
    have p12 := dv1_2.mono nv3
    have p22 := dv2_2.mono nv3 (fun _ q => q)
    have pr2 := dvr_2.mono nv3
    refine CodeFrom.out (made_tail (vs0 := (vs0_0 ++ (vs0_1 ++ vs0_2))) (vs1 := (vs1_0 ++ (vs1_1 ++ vs1_2))) (vs2 := (vs2_0 ++ (vs2_1 ++ vs2_2))) (D' := D_12) (l' := l'_0) (fz := (fz_0 ++ (fz_1 ++ fz_2))) B' F9 N9 rfl rfl rfl rfl (by k_mem) (by k_mem) (by assumption) (by k_mem) (by k_mem) (by k_mem) (by k_mem) (by simp only [List.append_assoc, List.cons_append, List.nil_append]) (by simp only [List.append_assoc, List.cons_append, List.nil_append]) (by simp only [List.append_assoc, List.cons_append, List.nil_append]) (by k_mem) l2_0 nd z4 z5 z6 (St.pre.eq_3 _ _ _ _) (St.post.eq_3 _ _ _ _) rfl hNN hret hg1 hN ?f1 ?f2 (by lia) ?y1 ?y2 ?x0 ?x1 ?x2 ?x3 ?x4) ho
    case f1 => intro p hp; simp only [List.mem_append] at hp; rcases hp with hp | hp | hp <;> simp only [List.mem_cons, List.mem_append, hp, true_or, or_true]
    case f2 => exact List.forall_mem_append.mpr ⟨lz_0, List.forall_mem_append.mpr ⟨lz_1, lz_2⟩⟩
    case y1 => simp only [List.length_append]; lia
    case y2 => simp only [List.length_append]; lia
    case x2 => simp only [toDs_append]; exact (p00.append (p01.append p02))
    case x3 => simp only [toDs_append]; exact (p10.append (p11.append p12))
    case x4 => exact (((p20).mono (fun _ _ _ q => q) (fun p hp => by simp only [List.mem_append, hp, true_or, or_true])).append (((p21).mono (fun _ _ _ q => q) (fun p hp => by simp only [List.mem_append, hp, true_or, or_true])).append ((p22).mono (fun _ _ _ q => q) (fun p hp => by simp only [List.mem_append, hp, true_or, or_true]))))
    case x1 => exact dr0
    case x0 =>
      simp only [St.toD, sS, numD, refB]
      repeat' (first
        | exact Dvs.nil | exact Dv.none | exact Dv.bool _ | exact Dv.bytes _ _ | exact Dv.str _ _ | exact Dv.int _ _ | assumption
        | refine Dvs.cons ?_ ?_
        | refine Dv.tup (inl N9 (by k_mem)) ?_)
  · k_extra "og_peel"
    rename_i tk_0 a_0 t_0 tk_1 h'_0 h'_1 l'_0 h'_2 l1_0 l2_0 h'_3 h'_4 tk'_0 tk2_0 n'_0 n2'_0 vs'_0 imm_0 r_0 nvs_0 nR'_0 ct_0 hi_0 ok'_0 dv_0 hnl_0 htt_0 h'_5 a_1 a_2 a_3 D_0 h'_6 l1_1 D_1 h'_7 l1_2 h'_8 tk'_1 tk2_1 n'_1 n2'_1 vs'_1 imm_1 r_1 nvs_1 nR'_1 ct_1 hi_1 ok'_1 dv_1 hnl_1 htt_1 h'_9 tk'_2 tk2_2 n'_2 n2'_2 vs'_2 imm_2 r_2 nvs_2 nR'_2 ct_2 hi_2 ok'_2 dv_2 hnl_2 htt_2 D_2 h'_10 l1_3 D_3 h'_11 l1_4 D_4 h'_12 l1_5 h'_13 h'_14 tk'_3 r_3 vs0_0 vs1_0 vs2_0 fz_0 imm_3 vs'_3 tk2_3 n_0 n'_3 n0'_0 n1'_0 n2'_3 ct_3 hi_3 ok'_3 lz_0 dv0_0 dv1_0 dv2_0 dvr_0 htt_3 hl0_0 hl1_0 hl2_0 D_5 h'_15 l1_6 D_6 h'_16 l1_7 D_7 h'_17 l1_8 h'_18 a_4 a_5
    rename News _ _ _ _ => N9
    rename Fr _ _ _ _ => F9
    unfold Stop
    have hkind : dval 5 T = 3 := by lia
    rw [made_3 hlen hkind len_none] at hret
    dsimp only at hret
    have nv0 := ivm N9 (imm := imm_0) (by intro p hp; k_mem)
    have nv1 := ivm N9 (imm := imm_1) (by intro p hp; k_mem)
    have nv2 := ivm N9 (imm := imm_2) (by intro p hp; k_mem)
    have nv3 := ivm N9 (imm := imm_3) (by intro p hp; k_mem)
    have dr0 := dv_0.mono nv0
    have dh0 := dv_head dr0
    have dr1 := dv_1.mono nv1
    have dh1 := dv_head dr1
    have dr2 := dv_2.mono nv2
    have dh2 := dv_head dr2
    have p00 := dv0_0.mono nv3
    have p10 := dv1_0.mono nv3
    have p20 := dv2_0.mono nv3 (fun _ q => q)
    have pr0 := dvr_0.mono nv3
    refine CodeFrom.out (made_tail (vs0 := vs0_0) (vs1 := vs1_0) (vs2 := vs2_0) (D' := D_7) (l' := l'_0) (fz := fz_0) B' F9 N9 rfl rfl rfl rfl (by k_mem) (by k_mem) (by assumption) (by k_mem) (by k_mem) (by k_mem) (by k_mem) (by simp only [List.append_assoc, List.cons_append, List.nil_append]) (by simp only [List.append_assoc, List.cons_append, List.nil_append]) (by simp only [List.append_assoc, List.cons_append, List.nil_append]) (by k_mem) l2_0 nd z4 z5 z6 (St.pre.eq_4 _ _ _ _) (St.post.eq_4 _ _ _ _) rfl hNN hret hg1 hN ?f1 ?f2 (by lia) ?y1 ?y2 ?x0 ?x1 ?x2 ?x3 ?x4) ho
    case f1 => intro p hp; k_mem
    case f2 => exact lz_0
    case y1 => lia
    case y2 => lia
    case x2 => exact p00
    case x3 => exact p10
    case x4 => exact p20
    case x1 => show Dvs _ _ (List.map _ (_ ++ (_ ++ _))); rw [List.map_append, List.map_append]; exact dr0.append (dr1.append dr2)
    case x0 =>
      simp only [St.toD, sS, numD, refB]
      repeat' (first
        | exact Dvs.nil | exact Dv.none | exact Dv.bool _ | exact Dv.bytes _ _ | exact Dv.str _ _ | exact Dv.int _ _ | assumption
        | refine Dvs.cons ?_ ?_
        | refine Dv.tup (inl N9 (by k_mem)) ?_)
  · k_extra "og_peel"
    rename_i tk_0 a_0 t_0 tk_1 h'_0 h'_1 l'_0 h'_2 l1_0 l2_0 h'_3 h'_4 tk'_0 tk2_0 n'_0 n2'_0 vs'_0 imm_0 r_0 nvs_0 nR'_0 ct_0 hi_0 ok'_0 dv_0 hnl_0 htt_0 h'_5 a_1 a_2 a_3 a_4 D_0 h'_6 l1_1 D_1 h'_7 l1_2 D_2 h'_8 l1_3 D_3 h'_9 l1_4 D_4 h'_10 l1_5 D_5 h'_11 l1_6 l'_1 h'_12 l1_7 l2_1 h'_13 h'_14 tk'_1 tr_0 tk2_1 n'_1 n2'_1 vs'_1 a_5 a_6 a_7 a_8 a_9 h'_15 h'_16 h'_17 tk'_2 r_1 vs0_0 vs1_0 vs2_0 fz_0 imm_1 vs'_2 tk2_2 n_0 n'_2 n0'_0 n1'_0 n2'_2 ct_1 hi_1 ok'_1 lz_0 dv0_0 dv1_0 dv2_0 dvr_0 htt_1 hl0_0 hl1_0 hl2_0 h'_18 D_6 h'_19 l1_8 h'_20 tk'_3 r_2 vs0_1 vs1_1 vs2_1 fz_1 imm_2 vs'_3 tk2_3 n_1 n'_3 n0'_1 n1'_1 n2'_3 ct_2 hi_2 ok'_2 lz_1 dv0_1 dv1_1 dv2_1 dvr_1 htt_2 hl0_1 hl1_1 hl2_1 D_7 h'_21 l1_9 D_8 h'_22 l1_10 D_9 h'_23 l1_11 D'_0 h'_24 a_10 h'_25 a_11 a_12
    rename News _ _ _ _ => N9
    rename Fr _ _ _ _ => F9
    unfold Stop
    have hkind : dval 5 T = 4 := by lia
    rw [made_4 (n2 := (v0 ++ [Value.none] ++ vs0_0).length) hlen hkind len_none (by rw [List.append_assoc]; exact len_mid dv0_0)] at hret
    have hk3 : dval 3 (refF 3 (dnew 5 T)).2 = 0 := by assumption
    rw [hk3] at hret
    dsimp only at hret
    have nv0 := ivm N9 (imm := imm_0) (by intro p hp; k_mem)
    have nv1 := ivm N9 (imm := imm_1) (by intro p hp; k_mem)
    have nv2 := ivm N9 (imm := imm_2) (by intro p hp; k_mem)
    have dr0 := dv_0.mono nv0
    have dh0 := dv_head dr0
    have p00 := dv0_0.mono nv1
    have p10 := dv1_0.mono nv1
    have p20 := dv2_0.mono nv1 (fun _ q => q)
    have pr0 := dvr_0.mono nv1
    have p01 := dv0_1.mono nv2
    have p11 := dv1_1.mono nv2
    have p21 := dv2_1.mono nv2 (fun _ q => q)
    have pr1 := dvr_1.mono nv2
    refine CodeFrom.out (made_tail (vs0 := (vs0_0 ++ vs0_1)) (vs1 := (vs1_0 ++ vs1_1)) (vs2 := (vs2_0 ++ vs2_1)) (D' := D'_0) (l' := l'_0) (fz := (fz_0 ++ fz_1)) B' F9 N9 rfl rfl rfl rfl (by k_mem) (by k_mem) (by assumption) (by k_mem) (by k_mem) (by k_mem) (by k_mem) (by simp only [List.append_assoc, List.cons_append, List.nil_append]) (by simp only [List.append_assoc, List.cons_append, List.nil_append]) (by simp only [List.append_assoc, List.cons_append, List.nil_append]) (by k_mem) l2_0 nd z4 z5 z6 (St.pre.eq_5 _ _ _ _) (St.post.eq_5 _ _ _ _) rfl hNN hret hg1 hN ?f1 ?f2 (by lia) ?y1 ?y2 ?x0 ?x1 ?x2 ?x3 ?x4) ho
    case f1 => intro p hp; simp only [List.mem_append] at hp; rcases hp with hp | hp <;> simp only [List.mem_cons, List.mem_append, hp, true_or, or_true]
    case f2 => exact List.forall_mem_append.mpr ⟨lz_0, lz_1⟩
    case y1 => simp only [List.length_append]; lia
    case y2 => simp only [List.length_append]; lia
    case x2 => simp only [toDs_append]; exact (p00.append p01)
    case x3 => simp only [toDs_append]; exact (p10.append p11)
    case x4 => exact (((p20).mono (fun _ _ _ q => q) (fun p hp => by simp only [List.mem_append, hp, true_or, or_true])).append ((p21).mono (fun _ _ _ q => q) (fun p hp => by simp only [List.mem_append, hp, true_or, or_true])))
    case x1 => rw [refs_br0]; exact dr0
    case x0 =>
      simp only [St.toD, brHead0, sS, numD, refB, List.cons_append, List.nil_append]
      repeat' (first
        | exact Dvs.nil | exact Dv.none | exact Dv.bool _ | exact Dv.bytes _ _ | exact Dv.str _ _ | exact Dv.int _ _ | assumption
        | refine Dvs.cons ?_ ?_
        | refine Dv.tup (inl N9 (by k_mem)) ?_)
  · k_extra "og_peel"
    rename_i tk_0 a_0 t_0 tk_1 h'_0 h'_1 l'_0 h'_2 l1_0 l2_0 h'_3 h'_4 tk'_0 tk2_0 n'_0 n2'_0 vs'_0 imm_0 r_0 nvs_0 nR'_0 ct_0 hi_0 ok'_0 dv_0 hnl_0 htt_0 h'_5 a_1 a_2 a_3 a_4 D_0 h'_6 l1_1 D_1 h'_7 l1_2 D_2 h'_8 l1_3 D_3 h'_9 l1_4 D_4 h'_10 l1_5 D_5 h'_11 l1_6 l'_1 h'_12 l1_7 l2_1 h'_13 h'_14 tk'_1 tr_0 tk2_1 n'_1 n2'_1 vs'_1 a_5 a_6 a_7 a_8 a_9 h'_15 l'_2 h'_16 l1_8 l2_2 h'_17 h'_18 tk'_2 r_1 vs0_0 vs1_0 vs2_0 fz_0 imm_1 vs'_2 tk2_2 n_0 n'_2 n0'_0 n1'_0 n2'_2 ct_1 hi_1 ok'_1 lz_0 dv0_0 dv1_0 dv2_0 dvr_0 htt_1 hl0_0 hl1_0 hl2_0 h'_19 D_6 h'_20 l1_9 h'_21 tk'_3 r_2 vs0_1 vs1_1 vs2_1 fz_1 imm_2 vs'_3 tk2_3 n_1 n'_3 n0'_1 n1'_1 n2'_3 ct_2 hi_2 ok'_2 lz_1 dv0_1 dv1_1 dv2_1 dvr_1 htt_2 hl0_1 hl1_1 hl2_1 D_7 h'_22 l1_10 D_8 h'_23 l1_11 D_9 h'_24 l1_12 D'_0 h'_25 a_10 h'_26 a_11 a_12
    rename News _ _ _ _ => N9
    rename Fr _ _ _ _ => F9
    unfold Stop
    have hkind : dval 5 T = 4 := by lia
    rw [made_4 (n2 := (v0 ++ [Value.none] ++ vs0_0).length) hlen hkind len_none (by rw [List.append_assoc]; exact len_mid dv0_0)] at hret
    have hk3 : dval 3 (refF 3 (dnew 5 T)).2 = 1 := by assumption
    rw [hk3] at hret
    dsimp only at hret
    have nv0 := ivm N9 (imm := imm_0) (by intro p hp; k_mem)
    have nv1 := ivm N9 (imm := imm_1) (by intro p hp; k_mem)
    have nv2 := ivm N9 (imm := imm_2) (by intro p hp; k_mem)
    have dr0 := dv_0.mono nv0
    have dh0 := dv_head dr0
    have p00 := dv0_0.mono nv1
    have p10 := dv1_0.mono nv1
    have p20 := dv2_0.mono nv1 (fun _ q => q)
    have pr0 := dvr_0.mono nv1
    have p01 := dv0_1.mono nv2
    have p11 := dv1_1.mono nv2
    have p21 := dv2_1.mono nv2 (fun _ q => q)
    have pr1 := dvr_1.mono nv2
    refine CodeFrom.out (made_tail (vs0 := (vs0_0 ++ vs0_1)) (vs1 := (vs1_0 ++ vs1_1)) (vs2 := (vs2_0 ++ vs2_1)) (D' := D'_0) (l' := l'_2) (fz := (fz_0 ++ fz_1)) B' F9 N9 rfl rfl rfl rfl (by k_mem) (by k_mem) (by assumption) (by k_mem) (by k_mem) (by k_mem) (by k_mem) (by simp only [List.append_assoc, List.cons_append, List.nil_append]) (by simp only [List.append_assoc, List.cons_append, List.nil_append]) (by simp only [List.append_assoc, List.cons_append, List.nil_append]) (by k_mem) l2_2 nd z4 z5 z6 (St.pre.eq_5 _ _ _ _) (St.post.eq_5 _ _ _ _) rfl hNN hret hg1 hN ?f1 ?f2 (by lia) ?y1 ?y2 ?x0 ?x1 ?x2 ?x3 ?x4) ho
    case f1 => intro p hp; simp only [List.mem_append] at hp; rcases hp with hp | hp <;> simp only [List.mem_cons, List.mem_append, hp, true_or, or_true]
    case f2 => exact List.forall_mem_append.mpr ⟨lz_0, lz_1⟩
    case y1 => simp only [List.length_append]; lia
    case y2 => simp only [List.length_append]; lia
    case x2 => simp only [toDs_append]; exact (p00.append p01)
    case x3 => simp only [toDs_append]; exact (p10.append p11)
    case x4 => exact (((p20).mono (fun _ _ _ q => q) (fun p hp => by simp only [List.mem_append, hp, true_or, or_true])).append ((p21).mono (fun _ _ _ q => q) (fun p hp => by simp only [List.mem_append, hp, true_or, or_true])))
    case x1 => rw [refs_br1, List.map_append]; exact dr0.append dr0
    case x0 =>
      simp only [St.toD, brHead1, sS, numD, refB, List.cons_append, List.nil_append]
      repeat' (first
        | exact Dvs.nil | exact Dv.none | exact Dv.bool _ | exact Dv.bytes _ _ | exact Dv.str _ _ | exact Dv.int _ _ | assumption
        | refine Dvs.cons ?_ ?_
        | refine Dv.tup (inl N9 (by k_mem)) ?_)
  · k_extra "og_peel"
    rename_i tk_0 a_0 t_0 tk_1 h'_0 h'_1 l'_0 h'_2 l1_0 l2_0 h'_3 h'_4 tk'_0 tk2_0 n'_0 n2'_0 vs'_0 imm_0 r_0 nvs_0 nR'_0 ct_0 hi_0 ok'_0 dv_0 hnl_0 htt_0 h'_5 a_1 a_2 a_3 a_4 D_0 h'_6 l1_1 D_1 h'_7 l1_2 D_2 h'_8 l1_3 D_3 h'_9 l1_4 D_4 h'_10 l1_5 D_5 h'_11 l1_6 l'_1 h'_12 l1_7 l2_1 h'_13 h'_14 tk'_1 tr_0 tk2_1 n'_1 n2'_1 vs'_1 a_5 a_6 a_7 a_8 a_9 h'_15 l'_2 h'_16 l1_8 l2_2 h'_17 h'_18 tk'_2 r_1 vs0_0 vs1_0 vs2_0 fz_0 imm_1 vs'_2 tk2_2 n_0 n'_2 n0'_0 n1'_0 n2'_2 ct_1 hi_1 ok'_1 lz_0 dv0_0 dv1_0 dv2_0 dvr_0 htt_1 hl0_0 hl1_0 hl2_0 h'_19 D_6 h'_20 l1_9 h'_21 tk'_3 r_2 vs0_1 vs1_1 vs2_1 fz_1 imm_2 vs'_3 tk2_3 n_1 n'_3 n0'_1 n1'_1 n2'_3 ct_2 hi_2 ok'_2 lz_1 dv0_1 dv1_1 dv2_1 dvr_1 htt_2 hl0_1 hl1_1 hl2_1 D_7 h'_22 l1_10 D_8 h'_23 l1_11 D_9 h'_24 l1_12 D'_0 h'_25 a_10 h'_26 a_11 a_12
    rename News _ _ _ _ => N9
    rename Fr _ _ _ _ => F9
    unfold Stop
    have hkind : dval 5 T = 4 := by lia
    rw [made_4 (n2 := (v0 ++ [Value.none] ++ vs0_0).length) hlen hkind len_none (by rw [List.append_assoc]; exact len_mid dv0_0)] at hret
    have hk3 : dval 3 (refF 3 (dnew 5 T)).2 = 2 := by assumption
    rw [hk3] at hret
    dsimp only at hret
    have nv0 := ivm N9 (imm := imm_0) (by intro p hp; k_mem)
    have nv1 := ivm N9 (imm := imm_1) (by intro p hp; k_mem)
    have nv2 := ivm N9 (imm := imm_2) (by intro p hp; k_mem)
    have dr0 := dv_0.mono nv0
    have dh0 := dv_head dr0
    have p00 := dv0_0.mono nv1
    have p10 := dv1_0.mono nv1
    have p20 := dv2_0.mono nv1 (fun _ q => q)
    have pr0 := dvr_0.mono nv1
    have p01 := dv0_1.mono nv2
    have p11 := dv1_1.mono nv2
    have p21 := dv2_1.mono nv2 (fun _ q => q)
    have pr1 := dvr_1.mono nv2
    refine CodeFrom.out (made_tail (vs0 := (vs0_0 ++ vs0_1)) (vs1 := (vs1_0 ++ vs1_1)) (vs2 := (vs2_0 ++ vs2_1)) (D' := D'_0) (l' := l'_2) (fz := (fz_0 ++ fz_1)) B' F9 N9 rfl rfl rfl rfl (by k_mem) (by k_mem) (by assumption) (by k_mem) (by k_mem) (by k_mem) (by k_mem) (by simp only [List.append_assoc, List.cons_append, List.nil_append]) (by simp only [List.append_assoc, List.cons_append, List.nil_append]) (by simp only [List.append_assoc, List.cons_append, List.nil_append]) (by k_mem) l2_2 nd z4 z5 z6 (St.pre.eq_5 _ _ _ _) (St.post.eq_5 _ _ _ _) rfl hNN hret hg1 hN ?f1 ?f2 (by lia) ?y1 ?y2 ?x0 ?x1 ?x2 ?x3 ?x4) ho
    case f1 => intro p hp; simp only [List.mem_append] at hp; rcases hp with hp | hp <;> simp only [List.mem_cons, List.mem_append, hp, true_or, or_true]
    case f2 => exact List.forall_mem_append.mpr ⟨lz_0, lz_1⟩
    case y1 => simp only [List.length_append]; lia
    case y2 => simp only [List.length_append]; lia
    case x2 => simp only [toDs_append]; exact (p00.append p01)
    case x3 => simp only [toDs_append]; exact (p10.append p11)
    case x4 => exact (((p20).mono (fun _ _ _ q => q) (fun p hp => by simp only [List.mem_append, hp, true_or, or_true])).append ((p21).mono (fun _ _ _ q => q) (fun p hp => by simp only [List.mem_append, hp, true_or, or_true])))
    case x1 => rw [refs_br2, List.map_append]; exact dr0.append dr0
    case x0 =>
      simp only [St.toD, brHead2, sS, numD, refB, List.cons_append, List.nil_append]
      repeat' (first
        | exact Dvs.nil | exact Dv.none | exact Dv.bool _ | exact Dv.bytes _ _ | exact Dv.str _ _ | exact Dv.int _ _ | assumption
        | refine Dvs.cons ?_ ?_
        | refine Dv.tup (inl N9 (by k_mem)) ?_)
  · exfalso; clear u1 u2 u3 u4 u5 u6 u7 u8 u9 u10 u11 u12 u13 u14 u15; lia
theorem rulesOgMade : True := by
  w_top off
  k_with_none
  k_with "spliced" => ((with_reducible show wpAny _ _ (spliced (backTo _ (starEach (_ :: _) _))) _ _ _); k_dflt (refine' args_at ?ogF ?ogk ?ogv ?_; (case ogF => k_asm); (case ogk => rfl); (case ogv => rfl)); k_whole)
  k_with "eval Constant int" => refine int_at ?_
  k_with "eval Constant str" => refine str_at ?_
  k_with "eval Call" => (k_dflt (first | (refine' callK_at ?ogF ?ogX ?ogT ?oge ?ogf ?ogk ?ogg ?ogd ?ogv ?_; (case ogX => k_asm); (case ogT => k_asm); (case oge => k_is); (case ogf => k_is); (case ogg => rfl); (case ogd => rfl); (case ogF => k_asm); (case ogk => rfl); (case ogv => rfl); k_whole) | (refine' callB_at ?ogF ?ogX ?ogT ?oge ?ogb ?ogi ?ogn ?ogk ?ogg ?ogd ?ogv ?_; (case ogX => k_asm); (case ogT => k_asm); (case oge => k_is); (case ogb => boot_fast); (case ogi => rfl); (case ogn => decide); (case ogg => rfl); (case ogd => rfl); (case ogF => k_asm); (case ogk => rfl); (case ogv => rfl); k_whole)))
  k_with "eval Subscript" => (k_dflt (refine' sub_at ?ogF ?ogk ?ogv ?ogw ?_; (case ogF => k_asm); (case ogk => rfl); (case ogv => rfl); (case ogw => rfl)); k_whole)
  k_with "ite" => (k_closed; k_dflt (first | refine iteT rfl ?_ | refine iteF rfl ?_))
  k_with "isTrue Compare" => (k_dflt (refine' cmp_at ?ogF ?ogk ?ogv ?ogw ?ogb ?_; (case ogF => k_asm); (case ogk => rfl); (case ogv => rfl); (case ogw => rfl); (case ogb => rfl)); k_whole)
  k_with "og_mem" => first | with_reducible assumption | (refine memI ?_; with_reducible assumption) | (refine List.mem_append_right _ ?_; k_mem) | (refine List.mem_append_left _ ?_; k_mem)
  k_with "og_neo" => first | exact neLt (by assumption) (by k_mem) | exact neGt (by assumption) (by k_mem) | (refine neN ?_; (try dsimp only); lia)
  k_with "og_ne" => first | assumption | exact Ne.symm (by assumption) | (k_extra "og_neo")
  k_with "og_all" => first | assumption | exact neAll (by assumption) (fun _ h => h) | exact neAll (by assumption) (by intro p hp; k_mem) | exact off1 (by assumption) (by assumption) | exact LCg_lt (by assumption) | exact offL (by assumption) (by k_mem) | exact off_tup (by assumption) (by assumption) (by intro p hp; k_mem) (by k_mem) | (refine List.forall_mem_append.mpr ⟨?_, ?_⟩ <;> k_all) | exact off1 (by assumption) (by lia)
  k_with "og_d" => first | exact dlt hd rfl rfl | exact dlt0 hd rfl rfl | exact dle hd rfl rfl | exact dle0 hd rfl rfl | exact dlq hd rfl rfl | exact dlq0 hd rfl rfl | exact dmk hd rfl | exact drk hd rfl | exact drk0 hd rfl | (simp only [depth_deeper, depth_in1]; lia)
  k_with "og_u" => first | exact dlt hu rfl rfl | exact dlt0 hu rfl rfl | exact dle hu rfl rfl | exact dle0 hu rfl rfl | exact dlq hu rfl rfl | exact dlq0 hu rfl rfl | exact umk hu rfl | exact urk hu rfl | exact urk0 hu rfl | (simp only [units_deeper, units_in1]; lia)
  k_with "og_peel" => ((try dsimp +zetaDelta only [List.nil_append, List.cons_append] at *); (repeat (first | clear ledk | clear mk | clear qk | clear ek)))
  k_with "og_klt" => skip
  k_with "newTuple" => (k_dflt (refine' newtup_le ?ogF ?ogN ?_ ?ogz; (case ogF => k_asm); (case ogN => k_asm); (case ogz => kmk_size)); intro _ _ ledk _ _ l1; (try skip); (try k_sweep); (try (revert l1; intros)))
  k_with "eval Tuple" => (k_dflt (refine' tup_le ?ogF ?ogN ?ogk ?ogv ?ogz ?_; (case ogN => k_asm); (case ogF => k_asm); (case ogk => rfl); (case ogv => rfl); (case ogz => kmk_size)); k_whole; intro _ _ ledk _ _ l1; (try skip); (try k_sweep); (try (revert l1; intros)))
  k_with "storeName" => (k_dflt (refine' store_le ?ogF ?ogN ?_ ?oga ?ogb; (case ogF => k_asm); (case ogN => k_asm); (case oga => rfl); (case ogb => rfl)); k_whole; intro _ mk _ _; (try k_sweep))
  k_with "call builtin:list.append" => ((with_reducible show wpAny _ _ (call (Value.builtin _) [Value.ref _, _]) _ _ _); k_dflt (refine' append_le ?ogF ?ogN ?ogU ?_ ?ogz; (case ogF => k_asm); (case ogN => k_asm); (case ogU => k_upd); (case ogz => ((try simp only [List.length_append, List.length_cons, List.length_nil]); lia))); k_whole; intro _ ledk _ _; (try k_sweep))
  k_with "call builtin:len" => (k_dflt (refine' len_i ?ogk1 ?ogk2 ?ogk3 ?ogk4 ?_; (case ogk1 => k_asm); (case ogk2 => k_mem); (case ogk3 => with_reducible assumption); (case ogk4 => lia); k_whole); intro _ _; (try dsimp only))
  k_with "setItem ref int" => (k_dflt (refine' set_l ?ogk1 ?ogk2 ?ogk3 ?ogk4 ?ogk5 ?ogk6 ?ogk7 ?_; (case ogk1 => k_asm); (case ogk2 => k_asm); (case ogk3 => k_upd); (case ogk4 => rfl); (case ogk5 => decide); (case ogk6 => decide); (case ogk7 => (simp only [List.length_cons, List.length_nil]; decide)); k_whole); intro _ _ _; (try dsimp only [List.set]); (try k_sweep))
  k_with "call ref" => (k_dflt (refine' call_draw ?ogb1 ?ogb2 ?ogb3 ?ogb4 ?ogb5 ?ogb6 ?ogb7 ?ogb8 ?ogb9 ?ogc1 ?ogc2 ?ogc3 ?ogc4 ?ogc5 ?_; (case ogb1 => assumption); (case ogb2 => k_asm); (case ogb3 => k_asm); (case ogb4 => k_mem); (case ogb5 => k_mem); (case ogb6 => with_reducible assumption); (case ogb7 => assumption); (case ogb8 => repeat' (first | exact Rest.nil | (refine' Rest.skip ?ogr1 ?_; (case ogr1 => k_mem)) | (refine' Rest.keep ?ogr1 ?_; (case ogr1 => (repeat' (first | exact List.forall_mem_nil _ | (refine List.forall_mem_cons.mpr ⟨?_, ?_⟩) | assumption | exact Ne.symm (by assumption) | (k_extra "og_neo"))))) | (refine' Rest.app ?ogr1 ?_; (case ogr1 => assumption)) | (refine' Rest.tail ?ogr1; (case ogr1 => assumption)) | (refine' Rest.offApp ?ogr1 ?_; (case ogr1 => assumption)) | (refine' Rest.off ?ogr1; (case ogr1 => assumption)))); (case ogb9 => k_asm); (case ogc1 => (k_extra "og_d")); (case ogc2 => (k_extra "og_u")); (case ogc3 => lia); (case ogc4 => ((try simp only [dnew_t]); lia)); (case ogc5 => first | exact .inl rfl | exact .inr rfl); k_whole); intro _ _ _ _ _ _ _ _ _ _ _ _ _; (try dsimp only); (try k_sweep))
  k_with "call builtin:len" => (k_dflt (refine' len_l ?ogk1 ?ogk2 ?ogk4 ?_; (case ogk1 => k_asm); (case ogk2 => k_mem); (case ogk4 => (simp only [List.size_toArray, List.length_append, List.length_cons, List.length_nil]; (have hsl9 : sizeLine = 2 ^ 24 := rfl); lia)); k_whole); intro _ _; (try simp only [List.size_toArray]); (try dsimp only))
  k_with "execs cons" => ((with_reducible show wpAny _ _ (execs (Stmt.Assign [Expr.Name _ _] (Expr.Call (Expr.Name _ _) _ _ _) _ :: _) _) _ _ _); k_dflt (refine Stop.mk ?_))
  trivial
-- the call of _law_draw
-- the call of _law_ref
-- the calls of _law_made, _law_body
theorem made_zero {prog : Program} {w : World} (SR : RefSpec prog w 3) : MadeIf (fun _ _ => True) prog w 0 := by
  intro A s G R aT aC aN a0 a1 a2 T l mt dt mark CC B kp TA ok NA hG nd hl0 hl1 hl2 ht hmk hA hd hu hret
  refine' withCode (w := w) (f := 97) ?ho0 ?_
  case ho0 => k_is
  intro ho
  obtain ⟨tk, n, nc, vs, hT, hC, hvs⟩ := TA
  obtain ⟨nN, n0, n1, n2, hN, h0, h1, h2⟩ := NA
  obtain ⟨gT, gC, gN, g0, g1, g2⟩ := all6.mp hG
  obtain ⟨v0, v1, v2⟩ := l
  dsimp only at h0 h1 h2 hl0 hl1 hl2 hret
  obtain ⟨⟨u1, u2, u3, u4, u5⟩, ⟨u6, u7, u8, u9⟩, ⟨u10, u11, u12⟩, ⟨u13, u14⟩, u15⟩ := lists_nd nd
  have hled := (all6 (P := fun p : Addr × Obj => s.heap.get? p.1 = some p.2 ∧ G.get? p.1 = none) (a := (aT, listOf [.ref aC, .int T.t tk].toArray n)) (b := (aC, listOf vs.toArray nc)) (c := (aN, listOf [.ref a0, .ref a1, .ref a2].toArray nN)) (d := (a0, listOf v0.toArray n0)) (e := (a1, listOf v1.toArray n1)) (f := (a2, listOf v2.toArray n2))).mpr ⟨⟨hT, gT⟩, ⟨hC, gC⟩, ⟨hN, gN⟩, ⟨h0, g0⟩, ⟨h1, g1⟩, ⟨h2, g2⟩⟩
  have hrm : A.depth < recursionLimit := Nat.lt_trans (by first | exact Nat.lt_of_le_of_lt (Nat.le_add_right _ _) (Nat.lt_trans hd (by decide)) | exact Nat.lt_of_le_of_lt hd (by decide) | lia) (show 800 < recursionLimit by decide)
  refine' enter (binds := [(Str.ofString "tape", .ref aT), (Str.ofString "mark", .str mark mt), (Str.ofString "depth", .int ((0 : Nat) : Int) dt), (Str.ofString "notes", .ref aN)]) B kp _ hled ?_ ?_ hrm ?_ ?_ ?_ ?_ ?_ ?_ ?_
  any_goals k_is
  any_goals (exact BindsTo.of_eq rfl)
  any_goals (first | rfl | exact locs rfl | decide)
  intro g h₁ hg1 hg2 F N B'
  have X := B'.X
  obtain ⟨p, loose, mean, mg, mb, Tp⟩ := B'.T
  have z1 : aT < s.heap.objs.size := Heap.lt_size hT
  have z2 : aC < s.heap.objs.size := Heap.lt_size hC
  have z3 : aN < s.heap.objs.size := Heap.lt_size hN
  have z4 : a0 < s.heap.objs.size := Heap.lt_size h0
  have z5 : a1 < s.heap.objs.size := Heap.lt_size h1
  have z6 : a2 < s.heap.objs.size := Heap.lt_size h2
  clear kp hT hC gT gC gN g0 g1 g2 h0 h1 h2 B hg2 hled hrm hG
  have ht' : T.t + 16 < 80000 := ht
  have hc' : cntAt 0 = 1 := rfl
  rw [hc'] at hl0 hl1 hl2
  k_steps
  all_goals (try dsimp only)
  k_extra "og_peel"
  rename News _ _ _ _ => N9
  rename Fr _ _ _ _ => F9
  unfold Stop
  rw [made_z] at hret
  exact CodeFrom.out (made_mid0 (D := 0) SR B' F9 N9 rfl rfl rfl rfl rfl (by assumption) (by assumption) nd z1 z2 z3 z4 z5 z6 (by lia) (by lia) (by lia) (by lia) hmk hA (by lia) (by lia) rfl hg1 hN hret) ho
theorem made_small {prog : Program} {w : World} (d : Nat) (SR : RefSpec prog w 3) (hd3 : d + 1 ≤ 3) : MadeIf (fun _ k => ¬ k < 10) prog w (d + 1) := by
  intro A s G R aT aC aN a0 a1 a2 T l mt dt mark CC B kp TA ok NA hG nd hl0 hl1 hl2 ht hmk hA hd hu hret
  refine' withCode (w := w) (f := 97) ?ho0 ?_
  case ho0 => k_is
  intro ho
  obtain ⟨tk, n, nc, vs, hT, hC, hvs⟩ := TA
  obtain ⟨nN, n0, n1, n2, hN, h0, h1, h2⟩ := NA
  obtain ⟨gT, gC, gN, g0, g1, g2⟩ := all6.mp hG
  obtain ⟨v0, v1, v2⟩ := l
  have hlen : ¬ v0.length < 10 := CC
  dsimp only at h0 h1 h2 hl0 hl1 hl2 hret
  obtain ⟨⟨u1, u2, u3, u4, u5⟩, ⟨u6, u7, u8, u9⟩, ⟨u10, u11, u12⟩, ⟨u13, u14⟩, u15⟩ := lists_nd nd
  have hled := (all6 (P := fun p : Addr × Obj => s.heap.get? p.1 = some p.2 ∧ G.get? p.1 = none) (a := (aT, listOf [.ref aC, .int T.t tk].toArray n)) (b := (aC, listOf vs.toArray nc)) (c := (aN, listOf [.ref a0, .ref a1, .ref a2].toArray nN)) (d := (a0, listOf v0.toArray n0)) (e := (a1, listOf v1.toArray n1)) (f := (a2, listOf v2.toArray n2))).mpr ⟨⟨hT, gT⟩, ⟨hC, gC⟩, ⟨hN, gN⟩, ⟨h0, g0⟩, ⟨h1, g1⟩, ⟨h2, g2⟩⟩
  have hrm : A.depth < recursionLimit := Nat.lt_trans (by first | exact Nat.lt_of_le_of_lt (Nat.le_add_right _ _) (Nat.lt_trans hd (by decide)) | exact Nat.lt_of_le_of_lt hd (by decide) | lia) (show 800 < recursionLimit by decide)
  refine' enter (binds := [(Str.ofString "tape", .ref aT), (Str.ofString "mark", .str mark mt), (Str.ofString "depth", .int ((d + 1 : Nat) : Int) dt), (Str.ofString "notes", .ref aN)]) B kp _ hled ?_ ?_ hrm ?_ ?_ ?_ ?_ ?_ ?_ ?_
  any_goals k_is
  any_goals (exact BindsTo.of_eq rfl)
  any_goals (first | rfl | exact locs rfl | decide)
  intro g h₁ hg1 hg2 F N B'
  have X := B'.X
  obtain ⟨p, loose, mean, mg, mb, Tp⟩ := B'.T
  have z1 : aT < s.heap.objs.size := Heap.lt_size hT
  have z2 : aC < s.heap.objs.size := Heap.lt_size hC
  have z3 : aN < s.heap.objs.size := Heap.lt_size hN
  have z4 : a0 < s.heap.objs.size := Heap.lt_size h0
  have z5 : a1 < s.heap.objs.size := Heap.lt_size h1
  have z6 : a2 < s.heap.objs.size := Heap.lt_size h2
  clear kp hT hC gT gC gN g0 g1 g2 h0 h1 h2 B hg2 hled hrm hG
  have hdp := draws_pos d
  have hcp := cnt_pos d
  have ht' : T.t + (30 + 3 * (1 + 2 * drawsAt d)) < 80000 := ht
  have hc' : cntAt (d + 1) = 1 + 6 * cntAt d := rfl
  rw [hc'] at hl0 hl1 hl2
  have e5 : (dnew 5 T).t = T.t + 1 := rfl
  have e6 : (dnew 3 (refF 3 (dnew 5 T)).2).t = (refF 3 (dnew 5 T)).2.t + 1 := rfl
  k_steps
  all_goals (try dsimp only)
  k_extra "og_peel"
  rename News _ _ _ _ => N9
  rename Fr _ _ _ _ => F9
  unfold Stop
  rw [made_neg hlen] at hret
  exact CodeFrom.out (made_mid0 (D := d + 1) SR B' F9 N9 rfl rfl rfl rfl rfl (by assumption) (by assumption) nd z1 z2 z3 z4 z5 z6 (by lia) (by lia) (by lia) (by lia) hmk hA (by lia) (by lia) rfl hg1 hN hret) ho
theorem made_big {prog : Program} {w : World} (d : Nat) (SB' : BodySpec prog w d) (SR : RefSpec prog w 3) (hd3 : d + 1 ≤ 3) : MadeIf (fun _ k => k < 10) prog w (d + 1) := by
  intro A s G R aT aC aN a0 a1 a2 T l mt dt mark CC B kp TA ok NA hG nd hl0 hl1 hl2 ht hmk hA hd hu hret
  refine' withCode (w := w) (f := 97) ?ho0 ?_
  case ho0 => k_is
  intro ho
  obtain ⟨tk, n, nc, vs, hT, hC, hvs⟩ := TA
  obtain ⟨nN, n0, n1, n2, hN, h0, h1, h2⟩ := NA
  obtain ⟨gT, gC, gN, g0, g1, g2⟩ := all6.mp hG
  obtain ⟨v0, v1, v2⟩ := l
  have hlen : v0.length < 10 := CC
  dsimp only at h0 h1 h2 hl0 hl1 hl2 hret
  obtain ⟨⟨u1, u2, u3, u4, u5⟩, ⟨u6, u7, u8, u9⟩, ⟨u10, u11, u12⟩, ⟨u13, u14⟩, u15⟩ := lists_nd nd
  have hled := (all6 (P := fun p : Addr × Obj => s.heap.get? p.1 = some p.2 ∧ G.get? p.1 = none) (a := (aT, listOf [.ref aC, .int T.t tk].toArray n)) (b := (aC, listOf vs.toArray nc)) (c := (aN, listOf [.ref a0, .ref a1, .ref a2].toArray nN)) (d := (a0, listOf v0.toArray n0)) (e := (a1, listOf v1.toArray n1)) (f := (a2, listOf v2.toArray n2))).mpr ⟨⟨hT, gT⟩, ⟨hC, gC⟩, ⟨hN, gN⟩, ⟨h0, g0⟩, ⟨h1, g1⟩, ⟨h2, g2⟩⟩
  have hrm : A.depth < recursionLimit := Nat.lt_trans (by first | exact Nat.lt_of_le_of_lt (Nat.le_add_right _ _) (Nat.lt_trans hd (by decide)) | exact Nat.lt_of_le_of_lt hd (by decide) | lia) (show 800 < recursionLimit by decide)
  refine' enter (binds := [(Str.ofString "tape", .ref aT), (Str.ofString "mark", .str mark mt), (Str.ofString "depth", .int ((d + 1 : Nat) : Int) dt), (Str.ofString "notes", .ref aN)]) B kp _ hled ?_ ?_ hrm ?_ ?_ ?_ ?_ ?_ ?_ ?_
  any_goals k_is
  any_goals (exact BindsTo.of_eq rfl)
  any_goals (first | rfl | exact locs rfl | decide)
  intro g h₁ hg1 hg2 F N B'
  have X := B'.X
  obtain ⟨p, loose, mean, mg, mb, Tp⟩ := B'.T
  have z1 : aT < s.heap.objs.size := Heap.lt_size hT
  have z2 : aC < s.heap.objs.size := Heap.lt_size hC
  have z3 : aN < s.heap.objs.size := Heap.lt_size hN
  have z4 : a0 < s.heap.objs.size := Heap.lt_size h0
  have z5 : a1 < s.heap.objs.size := Heap.lt_size h1
  have z6 : a2 < s.heap.objs.size := Heap.lt_size h2
  clear kp hT hC gT gC gN g0 g1 g2 h0 h1 h2 B hg2 hled hrm hG
  have hdp := draws_pos d
  have hcp := cnt_pos d
  have ht' : T.t + (30 + 3 * (1 + 2 * drawsAt d)) < 80000 := ht
  have hc' : cntAt (d + 1) = 1 + 6 * cntAt d := rfl
  rw [hc'] at hl0 hl1 hl2
  have e5 : (dnew 5 T).t = T.t + 1 := rfl
  have e6 : (dnew 3 (refF 3 (dnew 5 T)).2).t = (refF 3 (dnew 5 T)).2.t + 1 := rfl
  k_steps
  all_goals (try dsimp only)
  k_extra "og_peel"
  rename News _ _ _ _ => N9
  rename Fr _ _ _ _ => F9
  unfold Stop
  by_cases k0 : dval 5 T = 0
  · have N8 := N9
    rw [made_0 hlen k0] at hret
    rw [k0] at F9
    exact CodeFrom.out (made_mid0 (D := d + 1) SR B' F9 N9 rfl rfl rfl rfl rfl (by assumption) (by assumption) nd z1 z2 z3 z4 z5 z6 (by lia) (by lia) (by lia) (by lia) hmk hA (by lia) (by lia) rfl hg1 hN hret) ho
  · exact CodeFrom.out (made_midk d SB' hd3 SR B' F9 N9 rfl rfl rfl rfl rfl (by assumption) (by assumption) nd z1 z2 z3 z4 z5 z6 hlen k0 (by assumption) (by assumption) hl0 hl1 hl2 ht hmk hA hd hu rfl hg1 hN hret) ho
theorem made_step {prog : Program} {w : World} (d : Nat) : d ≤ 3 → MadeSpec prog w d := by
  induction d with
  | zero =>
    intro _ A s G R aT aC aN a0 a1 a2 T l mt dt mark a b c e f g i j k l' m n o p q r
    exact made_zero (ref_all 3 (by lia)) trivial a b c e f g i j k l' m n o p q r
  | succ d ih =>
    intro h3 A s G R aT aC aN a0 a1 a2 T l mt dt mark a b c e f g i j k l' m n o p q r
    by_cases hl : l.v0.length < 10
    · exact made_big d (body_step d (ih (by lia)) (by lia)) (ref_all 3 (by lia)) h3 hl a b c e f g i j k l' m n o p q r
    · exact made_small d (ref_all 3 (by lia)) h3 hl a b c e f g i j k l' m n o p q r
section
variable {prog : Program} {w : World} {A : Around} {E : Value → Shared → Prop} {s : Shared} {g : Heap} {L b n : Nat} {m : Str → Option Value} {led : List (Addr × Obj)} {xs : List Value} {ns : List Int} {Q : Value → Shared → Prop}
theorem list_cpy (F : Fr g L s.heap m) (N : News g L s.heap led) (hb : (b, listOf xs.toArray n) ∈ led) (hi : IntsAre xs ns) (hz : ns.length ≤ 1000)
    (h : ∀ D c h', Fr g L h' m → News g L h' ((D, listOf xs.toArray c) :: led) → (∀ q ∈ led, q.1 < D) → Q (.ref D) { s with heap := h' }) : wpAny (model prog w) A (call (.type "list") [.ref b]) Q E s :=
  kup_listOf F N hb (by simp) h (by have : sizeLine = 2 ^ 24 := rfl; have := hi.length; simp only [List.toList_toArray]; lia)
theorem truth_l {c : Bool} {Q : Bool → Shared → Prop} (N : News g L s.heap led) (hb : (b, listOf xs.toArray n) ∈ led) (hi : IntsAre xs ns) (hz : ns.length ≤ 1000) (hc : decide (0 < ns.length) = c) (h : ∀ tk, Q c { s with toks := tk }) : wpAny (model prog w) A (truthy (.ref b)) Q E s := by
  subst hc
  exact truthy_ints_fit (isl N hb) hi (by lia) (h _)
end
/-- the end of one turn of the loop over the pairs -/
noncomputable def ForEnd (g : Heap) (L : Nat) (s : Shared) (I : Nat) (oI : Obj) (J : (Str → Option Value) → List (Addr × Obj) → Prop) (f : Flow) (s' : Shared) : Prop :=
  f = .next ∧ ∃ h' tk m₂ news₂, s' = { s with heap := h', toks := tk } ∧ Fr g L h' m₂ ∧ News g L h' ((I, oI) :: news₂) ∧ (∀ p ∈ news₂, p.1 ≠ I) ∧ J m₂ news₂
section
variable {prog : Program} {w : World} {A : Around} {E : Value → Shared → Prop} {s : Shared} {g : Heap} {env : Env}
theorem go_listiter {elts : List Expr} {x1} {pos : Pos} {I l : Addr} {v : Value} {i : Nat} {Q : Unit → Shared → Prop} (hit : s.heap.IsListIter I l i) (hQ : Q () s) : wpAny (model prog w) A (letOwnedTupleGo (.Tuple elts x1 pos) (.ref I) v) Q E s := by
  obtain ⟨o, ho, hc, hd⟩ := hit
  cases v with
  | ref T =>
    unfold letOwnedTupleGo
    refine wpAny_bind (wpAny_load ho ?_)
    rw [hc, hd]
    show wpAny _ A (if (["enumerate", "zip", "dict_itemiterator", "dict_reverseitemiterator", "odict_iterator", "itertools.zip_longest", "itertools.pairwise"].contains "list_iterator" && _) = true then _ else _) Q E s
    rw [if_neg (by rw [show (["enumerate", "zip", "dict_itemiterator", "dict_reverseitemiterator", "odict_iterator", "itertools.zip_longest", "itertools.pairwise"].contains "list_iterator") = false from by decide, Bool.false_and]; exact Bool.false_ne_true)]
    exact wpAny_pure hQ
  | _ => exact wpAny_pure hQ
noncomputable def PairFor (prog : Program) (w : World) (A : Around) (g : Heap) (env : Env) (xi xc : Str) (body : List Stmt) (Q : Flow → Shared → Prop) (xv : Value) (s₁ : Shared) : Prop :=
  ∃ (ax n : Nat) (vs : List Value) (m : Str → Option Value) (news : List (Addr × Obj)) (J : Nat → (Str → Option Value) → List (Addr × Obj) → Prop), xv = .ref ax ∧ Fr g env.locals s₁.heap m ∧ News g env.locals s₁.heap news ∧ J 0 m news ∧ vs.length ≤ 100000 ∧
    (∀ i m news, J i m news → (ax, listOf vs.toArray n) ∈ news ∧ (i < vs.length → ∃ t v0 v1 k, vs[i]? = some (.ref t) ∧ Lv g news t (tupOf [v0, v1] k))) ∧
    (∀ h' tk m' news', Fr g env.locals h' m' → News g env.locals h' news' → J vs.length m' news' → Q .next { s₁ with heap := h', toks := tk }) ∧
    (∀ i t v0 v1 k m₁ news₁ I oI h tk (E' : Value → Shared → Prop), vs[i]? = some (.ref t) → Lv g news₁ t (tupOf [v0, v1] k) → J i m₁ news₁ → Fr g env.locals h (fun y => if y = xc then some v1 else if y = xi then some v0 else m₁ y) → News g env.locals h ((I, oI) :: news₁) → (∀ p ∈ news₁, p.1 ≠ I) → (∃ a j u, oI.data = .fields #[.ref a, .int j u]) →
      wpAny (model prog w) A (execs body env) (ForEnd g env.locals { s₁ with heap := h, toks := tk } I oI (J (i + 1))) E' { s₁ with heap := h, toks := tk })
theorem for_pairs {Q : Flow → Shared → Prop} {xi xc : Str} {pk pv pt pos : Pos} {x1 : Nat} {iter : Expr} {body : List Stmt} (hh : A.handled = none) (hxi : env.kindOf xi = some .local) (hxc : env.kindOf xc = some .local)
    (hp : (env.scope.kind == .class || (env.scope.kind == .module && env.locals != env.globals)) = false)
    (h : wpAny (model prog w) A (eval iter env) (PairFor prog w A g env xi xc body Q) E s)
    (hs : ∀ x, foldedSetIterable iter env x = pure x) :
    wpAny (model prog w) A (exec (.For (.Tuple [.Name xi pk, .Name xc pv] x1 pt) iter body [] pos) env) Q E s := by
  refine wpAny_For (wpAny_mono h (fun xv s₁ h₁ => ?_) fun _ _ e => e) hs
  obtain ⟨ax, n, vs, m, news, J, rfl, F, N, h0, hsz, hJ, hfin, step⟩ := h₁
  have hl := isl N (hJ _ _ _ h0).1
  refine wpAny_pyIter_list hl ?_
  have up : ∀ b o, s₁.heap.get? b = some o → (s₁.heap.push { cls := .type "list_iterator", data := .fields #[.ref ax, .int 0 0] }).get? b = some o := fun b o e => Heap.get?_push_of_some _ e
  have hlt : ∀ b o, s₁.heap.get? b = some o → b ≠ s₁.heap.objs.size := fun b o e => Nat.ne_of_lt (Heap.lt_size e)
  have hLI : env.locals ≠ s₁.heap.objs.size := Nat.ne_of_lt F.ns.lt
  have hgI : g.get? s₁.heap.objs.size = none := by
    cases e : g.get? s₁.heap.objs.size with
    | none => rfl
    | some o => exact absurd (Heap.lt_size (F.keep _ _ e)) (Nat.lt_irrefl _)
  have hit0 : (s₁.heap.push { cls := .type "list_iterator", data := .fields #[.ref ax, .int 0 0] }).IsListIter s₁.heap.objs.size ax 0 := ⟨_, Heap.get?_push_size _ rfl, rfl, rfl⟩
  have off0 : ∀ p ∈ news, p.1 ≠ s₁.heap.objs.size := fun p hp => hlt _ _ (N p hp).1
  have F0 := F.keeps up
  have N0 : News g env.locals (s₁.heap.push { cls := .type "list_iterator", data := .fields #[.ref ax, .int 0 0] }) news := fun p hp => ⟨up _ _ (N p hp).1, (N p hp).2⟩
  have hax : ax ≠ s₁.heap.objs.size := off0 _ (hJ _ _ _ h0).1
  generalize s₁.heap.push { cls := .type "list_iterator", data := .fields #[.ref ax, .int 0 0] } = H0 at hit0 F0 N0
  generalize s₁.heap.objs.size = I at hit0 hLI hgI off0 hax ⊢
  have W := Walks.list (prog := prog) (w := w) (A := A) hh I ax hax vs.toArray
  refine codeAny_forLoop_any
    (fun k s' => ∃ h' tk m' news' i, s' = { s₁ with heap := h', toks := tk } ∧ h'.IsListIter I ax i ∧ Fr g env.locals h' m' ∧ News g env.locals h' news' ∧ (∀ p ∈ news', p.1 ≠ I) ∧ J i m' news' ∧ i ≤ vs.length ∧ k = vs.length + 1 - i) ?_ (vs.length + 1)
    ⟨H0, _, m, news, 0, rfl, hit0, F0, N0, off0, h0, Nat.zero_le _, rfl⟩
  rintro k s' ⟨H, tk, m', news', i, rfl, hit, F', N', off', hj, hi, rfl⟩
  have next : ∀ h₁ : Heap, (∀ b o, b ∉ [I] → H.get? b = some o → h₁.get? b = some o) → Fr g env.locals h₁ m' ∧ News g env.locals h₁ news' := fun h₁ hk₁ =>
    ⟨⟨F'.ns.at' fun o e => hk₁ _ o (by simpa using hLI) e, fun b o e => hk₁ b o (fun q => by rw [List.mem_singleton.mp q, hgI] at e; cases e) (F'.keep b o e), F'.above⟩, fun p hp => ⟨hk₁ _ _ (by simpa using off' p hp) (N' p hp).1, (N' p hp).2⟩⟩
  by_cases hlt2 : i < vs.length
  · refine W.item i _ _ _ (by simpa using hlt2) ⟨hit, isl N' (hJ _ _ _ hj).1⟩ fun v h₁ tk₁ hPt hst₁ hk₁ => ?_
    obtain ⟨t, v0, v1, kk, ev, hm⟩ := (hJ _ _ _ hj).2 hlt2
    rw [List.getElem?_toArray, ev] at hPt
    cases hPt
    obtain ⟨F₁, N₁⟩ := next h₁ hk₁
    refine go_listiter hst₁.1 ?_
    have ht₁ : h₁.IsTuple t #[v0, v1] := ⟨_, lv_get F₁ N₁ (fun _ h => h) hm, rfl, _, rfl⟩
    refine wpAny_assign_Tuple hh ht₁ rfl rfl fun h₃ hx₃ => ?_
    replace hx₃ : Heap.ExtBut h₁.objs.size h₁ h₃ := hx₃
    have up₃ : ∀ b o, h₁.get? b = some o → h₃.get? b = some o := fun b o x => hx₃ b o (Nat.ne_of_lt (Heap.lt_size x)) x
    have F₃ := F₁.keeps up₃
    have N₃ : News g env.locals h₃ news' := fun p hp => ⟨up₃ _ _ (N₁ p hp).1, (N₁ p hp).2⟩
    show wpAny _ A (do holding [v1] (assign (.Name xi pk) env v0); do holding [] (assign (.Name xc pv) env v1); pure ()) _ _ _
    refine wpAny_bind (wpAny_holding (wpAny_assign_Name (wpAny_storeName_local hxi F₃.ns (fun h₄ hn₄ hs₄ => ?_) hp)))
    replace hs₄ : Heap.SameBut env.locals h₃ h₄ := hs₄
    have F₄ := F₃.set hn₄ hs₄
    refine wpAny_bind (wpAny_holding (wpAny_assign_Name (wpAny_storeName_local hxc F₄.ns (fun h₅ hn₅ hs₅ => wpAny_pure ?_) hp)))
    replace hs₅ : Heap.SameBut env.locals h₄ h₅ := hs₅
    have F₅ := F₄.set hn₅ hs₅
    have N₅ : News g env.locals h₅ news' := (N₃.set hs₄).set hs₅
    obtain ⟨oI, e₁, hcI, hdI⟩ := hst₁.1
    have e₅ : h₅.get? I = some oI := hs₅.extBut _ _ (Ne.symm hLI) (hs₄.extBut _ _ (Ne.symm hLI) (up₃ _ _ e₁))
    have NI : News g env.locals h₅ ((I, oI) :: news') := fun p hp => by
      rcases List.mem_cons.mp hp with rfl | hp
      · exact ⟨e₅, Ne.symm hLI, hgI⟩
      · exact N₅ p hp
    refine wpAny_mono (step i t v0 v1 kk m' news' I oI h₅ _ _ ev hm hj F₅ NI off' ⟨_, _, _, hdI⟩) (fun f s₃ h₆ => ?_) fun _ _ e => e
    obtain ⟨rfl, h₆', tk₆, m₂, news₂, rfl, F₆, N₆, off₆, hJ₆⟩ := h₆
    exact ⟨vs.length + 1 - (i + 1), by lia, h₆', tk₆, m₂, news₂, i + 1, rfl, ⟨oI, (N₆ _ (.head _)).1, hcI, hdI⟩, F₆, fun p hp => N₆ p (.tail _ hp), off₆, hJ₆, hlt2, rfl⟩
  · have hin : i = vs.length := by lia
    subst hin
    refine W.done _ _ _ ⟨(by rw [List.size_toArray]; exact hit), isl N' (hJ _ _ _ hj).1⟩ fun h₁ tk₁ hk₁ => wpAny_execs_nil ?_
    obtain ⟨F₁, N₁⟩ := next h₁ hk₁
    exact hfin h₁ _ m' news' F₁ N₁ hj
end
theorem rulesOgWith : True := by
  w_top off
  k_with_none
  k_with "spliced" => ((with_reducible show wpAny _ _ (spliced (backTo _ (starEach (_ :: _) _))) _ _ _); k_dflt (refine' args_at ?ogF ?ogk ?ogv ?_; (case ogF => k_asm); (case ogk => rfl); (case ogv => rfl)); k_whole)
  k_with "eval Constant int" => refine int_at ?_
  k_with "eval Constant str" => refine str_at ?_
  k_with "eval Call" => (k_dflt (first | (refine' callK_at ?ogF ?ogX ?ogT ?oge ?ogf ?ogk ?ogg ?ogd ?ogv ?_; (case ogX => k_asm); (case ogT => k_asm); (case oge => k_is); (case ogf => k_is); (case ogg => rfl); (case ogd => rfl); (case ogF => k_asm); (case ogk => rfl); (case ogv => rfl); k_whole) | (refine' callB_at ?ogF ?ogX ?ogT ?oge ?ogb ?ogi ?ogn ?ogk ?ogg ?ogd ?ogv ?_; (case ogX => k_asm); (case ogT => k_asm); (case oge => k_is); (case ogb => boot_fast); (case ogi => rfl); (case ogn => decide); (case ogg => rfl); (case ogd => rfl); (case ogF => k_asm); (case ogk => rfl); (case ogv => rfl); k_whole)))
  k_with "eval Subscript" => (k_dflt (refine' sub_at ?ogF ?ogk ?ogv ?ogw ?_; (case ogF => k_asm); (case ogk => rfl); (case ogv => rfl); (case ogw => rfl)); k_whole)
  k_with "ite" => (k_closed; k_dflt (first | refine iteT rfl ?_ | refine iteF rfl ?_))
  k_with "isTrue Compare" => (k_dflt (refine' cmp_at ?ogF ?ogk ?ogv ?ogw ?ogb ?_; (case ogF => k_asm); (case ogk => rfl); (case ogv => rfl); (case ogw => rfl); (case ogb => rfl)); k_whole)
  k_with "og_mem" => first | with_reducible assumption | (refine memI ?_; with_reducible assumption) | (refine List.mem_append_right _ ?_; k_mem) | (refine List.mem_append_left _ ?_; k_mem)
  k_with "og_neo" => first | exact neLt (by assumption) (by k_mem) | exact neGt (by assumption) (by k_mem) | (refine neN ?_; (try dsimp only); lia)
  k_with "og_ne" => first | assumption | exact Ne.symm (by assumption) | (k_extra "og_neo")
  k_with "og_all" => first | assumption | exact neAll (by assumption) (fun _ h => h) | exact neAll (by assumption) (by intro p hp; k_mem) | exact off1 (by assumption) (by assumption) | exact LCg_lt (by assumption) | exact offL (by assumption) (by k_mem) | exact off_tup (by assumption) (by assumption) (by intro p hp; k_mem) (by k_mem) | (refine List.forall_mem_append.mpr ⟨?_, ?_⟩ <;> k_all) | exact off1 (by assumption) (by lia)
  k_with "og_d" => first | exact dlt hd rfl rfl | exact dlt0 hd rfl rfl | exact dle hd rfl rfl | exact dle0 hd rfl rfl | exact dlq hd rfl rfl | exact dlq0 hd rfl rfl | exact dmk hd rfl | exact drk hd rfl | exact drk0 hd rfl | (simp only [depth_deeper, depth_in1]; lia)
  k_with "og_u" => first | exact dlt hu rfl rfl | exact dlt0 hu rfl rfl | exact dle hu rfl rfl | exact dle0 hu rfl rfl | exact dlq hu rfl rfl | exact dlq0 hu rfl rfl | exact umk hu rfl | exact urk hu rfl | exact urk0 hu rfl | (simp only [units_deeper, units_in1]; lia)
  k_with "og_memb" => (repeat' (first | exact List.forall_mem_nil _ | (intro p hp; k_mem; done) | refine List.forall_mem_append.mpr ⟨?_, ?_⟩ | refine List.forall_mem_cons.mpr ⟨?_, ?_⟩ | k_mem))
  k_with "og_peel" => ((try dsimp +zetaDelta only [List.nil_append, List.cons_append] at *); (repeat (first | clear ledk | clear mk | clear qk | clear ek)))
  k_with "newTuple" => (k_dflt (refine' newtup_le ?ogF ?ogN ?_ ?ogz; (case ogF => k_asm); (case ogN => k_asm); (case ogz => kmk_size)); intro _ _ ledk _ _ l1; (try (dsimp +zetaDelta only at l1; k_lt l1)); (try k_sweep); (try (revert l1; intros)))
  k_with "eval Tuple" => (k_dflt (refine' tup_le ?ogF ?ogN ?ogk ?ogv ?ogz ?_; (case ogN => k_asm); (case ogF => k_asm); (case ogk => rfl); (case ogv => rfl); (case ogz => kmk_size)); k_whole; intro _ _ ledk _ _ l1; (try (dsimp +zetaDelta only at l1; k_lt l1)); (try k_sweep); (try (revert l1; intros)))
  k_with "storeName" => (k_dflt (refine' store_le ?ogF ?ogN ?_ ?oga ?ogb; (case ogF => k_asm); (case ogN => k_asm); (case oga => rfl); (case ogb => rfl)); k_whole; intro _ mk _ _; (try k_sweep))
  k_with "call builtin:list.append" => ((with_reducible show wpAny _ _ (call (Value.builtin _) [Value.ref _, _]) _ _ _); k_dflt (refine' append_le ?ogF ?ogN ?ogU ?_ ?ogz; (case ogF => k_asm); (case ogN => k_asm); (case ogU => k_upd); (case ogz => ((try simp only [List.length_append, List.length_cons, List.length_nil]); lia))); k_whole; intro _ ledk _ _; (try k_sweep))
  k_with "eval Name" => (k_dflt (refine' nameX_Fg ?ogN ?ogc ?ogm ?ogd ?_ ?oga ?ogb; (case oga => rfl); (case ogb => rfl); (case ogN => k_asm); (case ogc => rfl); (case ogm => assumption); (case ogd => assumption)); k_whole)
  k_with "call ref" => (k_dflt (refine' call_parts ?ogb0 ?ogF ?ogN ?ogP ?ogT ?ogn ?ogv ?ogr ?oghb ?ogA ?ogd ?ogu ?_; (case ogb0 => assumption); (case ogF => k_asm); (case ogN => k_asm); (case ogP => k_mem); (case ogT => assumption); (case ogn => (k_extra "og_memb")); (case ogv => first | with_reducible assumption | (refine' dv_up ?ogdF ?ogdN ?ogdM ?ogdX; (case ogdF => k_asm); (case ogdN => k_asm); (case ogdX => with_reducible assumption); (case ogdM => (k_extra "og_memb")))); (case ogr => (repeat' (first | exact Rest.nil | (refine' Rest.skip ?ogr1 ?_; (case ogr1 => k_mem)) | (refine' Rest.keep ?ogr1 ?_; (case ogr1 => (repeat' (first | exact List.forall_mem_nil _ | (refine List.forall_mem_cons.mpr ⟨?_, ?_⟩) | assumption | exact Ne.symm (by assumption) | (k_extra "og_neo"))))) | (refine' Rest.app ?ogr1 ?_; (case ogr1 => assumption)) | (refine' Rest.tail ?ogr1; (case ogr1 => assumption)) | (refine' Rest.offApp ?ogr1 ?_; (case ogr1 => (first | assumption | exact offs1 (by assumption)))) | (refine' Rest.off ?ogr1; (case ogr1 => (first | assumption | exact offs1 (by assumption))))))); (case oghb => lia); (case ogA => k_asm); (case ogd => (k_extra "og_d")); (case ogu => (k_extra "og_u")); k_whole); intro h' tk' a' vs' nw' ps' F' N' T' o1 o2 o3 o4 o5 dv' hl' hq'; (try dsimp only); (try simp only [List.cons_append, List.nil_append, List.append_assoc] at N'); (try k_lt o4); (try k_sweep); (try (revert h' tk' a' vs' nw' ps' F' N' T' o1 o2 o3 o4 o5 dv' hl' hq'; intros)))
  k_with "newList" => (k_dflt (refine' newList_L ?ogk1 ?ogk2 ?_ ?ogk3; (case ogk1 => k_asm); (case ogk2 => k_asm); (case ogk3 => (simp only [List.length_cons, List.length_nil]; decide)); k_whole); intro l' h' F' N' l1 l2; (try k_lt l1); (try k_lt2 l2); (try k_sweep); (try (revert l' h' F' N' l1 l2; intros)))
  k_with "call builtin:list.append" => (k_dflt (refine' append_l ?ogk1 ?ogk2 ?ogk3 ?ogz ?_; (case ogk1 => k_asm); (case ogk2 => k_asm); (case ogk3 => k_upd); (case ogz => (first | exact Nat.le_of_ble_eq_true rfl | ((try simp only [List.length_append, List.length_cons, List.length_nil]); lia))); k_whole); intro h' F' N'; (try simp only [List.cons_append, List.nil_append, List.append_assoc] at N'); (try dsimp only); (try k_sweep); (try (revert h' F' N'; intros)))
  k_with "call builtin:list.extend" => (k_dflt (refine' ext_l ?ogF ?ogN ?ogb ?ogU ?ogz ?_; (case ogF => k_asm); (case ogN => k_asm); (case ogb => k_mem); (case ogU => k_upd); (case ogz => (first | exact Nat.le_of_ble_eq_true rfl | ((try simp only [List.length_append, List.length_cons, List.length_nil, List.length_reverse]); lia))); k_whole); intro h' F' N'; (try dsimp only); (try k_sweep); (try (revert h' F' N'; intros)))
  k_with "call builtin:list.pop" => (k_dflt (refine' pop_l ?ogF ?ogN ?ogU ?ogz ?_; (case ogF => k_asm); (case ogN => k_asm); (case ogU => k_upd); (case ogz => (first | exact Nat.le_of_ble_eq_true rfl | ((try simp only [List.length_append, List.length_cons, List.length_nil, List.length_reverse]); lia))); k_whole); intro h' F' N'; (try dsimp only); (try k_sweep); (try (revert h' F' N'; intros)))
  k_with "subscriptTail" => (k_dflt (refine' rev_L ?ogF ?ogN ?ogm ?ogz ?_ ?ogs; (case ogF => k_asm); (case ogN => k_asm); (case ogm => k_mem); (case ogz => lia); (case ogs => with_unfolding_all rfl); k_whole); intro D' h' F' N' l1 l2; (try dsimp only); (try k_lt l1); (try k_lt2 l2); (try k_sweep); (try (revert D' h' F' N' l1 l2; intros)))
  k_with "subscriptTail Call" => (k_dflt (refine' rev_L ?ogF ?ogN ?ogm ?ogz ?_ ?ogs; (case ogF => k_asm); (case ogN => k_asm); (case ogm => k_mem); (case ogz => lia); (case ogs => with_unfolding_all rfl); k_whole); intro D' h' F' N' l1 l2; (try dsimp only); (try k_lt l1); (try k_lt2 l2); (try k_sweep); (try (revert D' h' F' N' l1 l2; intros)))
  k_with "subscriptTail Call Slice ref ref" => (k_dflt (refine' rev_L ?ogF ?ogN ?ogm ?ogz ?_ ?ogs; (case ogF => k_asm); (case ogN => k_asm); (case ogm => k_mem); (case ogz => lia); (case ogs => with_unfolding_all rfl); k_whole); intro D' h' F' N' l1 l2; (try dsimp only); (try k_lt l1); (try k_lt2 l2); (try k_sweep); (try (revert D' h' F' N' l1 l2; intros)))
  k_with "compareOp NotEq ref ref" => (k_dflt (first | (refine' ne_nil1 ?ogN ?oga ?ogb ?ogu ?_; (case ogN => k_asm); (case oga => k_mem); (case ogb => k_mem); (case ogu => (k_extra "og_u")); k_whole) | (refine' ne_nil0 ?ogN ?oga ?ogb ?ogu ?_; (case ogN => k_asm); (case oga => k_mem); (case ogb => k_mem); (case ogu => (k_extra "og_u")); k_whole)))
  k_with "exec While Compare" => (k_dflt (refine Hold.mk ?_))
  trivial
theorem within_spec {prog : Program} {w : World} {A : Around} {s : Shared} {G : Heap} {R : Result → Shared → Prop} {v : Value} {st : St} {mk : Str} (B : Base w G) (kp : G.StaysIn s.heap) (gP : G.get? 27 = none) (T : TabV (Hv s.heap) 27 22 4 qualB)
    (hv : Dv (Hv s.heap) v (st.toD mk)) (hb : st.pre.length ≤ 1000) (hA : A.handled = none) (hd : A.depth + 40 < 800) (hu : A.units + 80 < 4500)
    (h : ∀ h' tk' a vs n, Kp [27] s.heap h' → TabV (Hv h') 27 22 4 qualB → s.heap.objs.size ≤ a → h'.get? a = some (listOf vs.toArray n) → Dvs (Hv h') vs (toDs mk (preL st.bodies.flatten)) → R (.ok (.ret (.ref a))) { s with heap := h', toks := tk' }) :
    codeAny (model prog w) A (.call (.ref 44) ⟨[v], []⟩) R s := by
  have hrm : A.depth < recursionLimit := Nat.lt_trans (by first | exact Nat.lt_of_le_of_lt (Nat.le_add_right _ _) (Nat.lt_trans hd (by decide)) | exact Nat.lt_of_le_of_lt hd (by decide) | lia) (show 800 < recursionLimit by decide)
  obtain ⟨ps, hP⟩ := T.has
  refine' enter (binds := [(Str.ofString "statement", v)]) B kp [(27, tabObj ps)] ?_ ?_ ?_ hrm ?_ ?_ ?_ ?_ ?_ ?_ ?_
  any_goals k_is
  any_goals (exact BindsTo.of_eq rfl)
  any_goals (exact locs rfl)
  any_goals (first | rfl | decide)
  · exact List.forall_mem_cons.mpr ⟨⟨hP, gP⟩, List.forall_mem_nil _⟩
  intro g h₁ hg1 hg2 F N B'
  have gv := dv_g hg1 (List.forall_mem_cons.mpr ⟨⟨hP, tab_ne⟩, List.forall_mem_nil _⟩) hv
  have gT : TabN g [] ps 22 4 qualB := tabN_of hP (fun b o e n => hg1 b o e (by simpa using n)) T
  replace gv : Dv (Lv g []) v (st.toD mk) := gv.mono fun _ _ _ e => .inl e
  have X := B'.X
  obtain ⟨p, loose, mean, mg, mb, Tp⟩ := B'.T
  have l27 : (27 : Nat) < s.heap.objs.size := Heap.lt_size hP
  have hbl : st.bodies.flatten.length ≤ (preL st.bodies.flatten).length := len_preL _
  rw [pre_bodies] at hb
  simp only [List.length_cons] at hb
  clear kp B hg2 hrm hv T
  k_steps
  all_goals (try dsimp only)
  k_extra "og_peel"
  rename_i l'_0 h'_0 l1_0 l2_0 h'_1 tk_0 h'_2 tk'_0 a'_0 vs'_0 nw'_0 ps'_0 T'_0 o1_0 o2_0 o3_0 o5_0 dv'_0 hl'_0 hq'_0 o4_0 D'_0 h'_3 l1_1 l2_1 h'_4 F'_0 N'_0
  unfold Hold
  have FD : @LT.lt Nat _ l'_0 D'_0 := l1_1.2.2.1
  have PD : @LT.lt Nat _ 27 D'_0 := l1_1.1
  have PF : @LT.lt Nat _ 27 l'_0 := l1_0
  have LF : @LT.lt Nat _ s.heap.objs.size l'_0 := l2_0
  have oD : ∀ p ∈ nw'_0, p.1 ≠ D'_0 := LCg_lt l1_1.2.2.2
  have oF : ∀ p ∈ nw'_0, p.1 ≠ l'_0 := fun p hp => o3_0 p hp _ (.head _) ⟨_, _, rfl⟩
  refine While_inv (WithinJ g l'_0 D'_0 (fun y => if y = Str.ofString "line" then some (Value.ref D'_0) else if y = Str.ofString "found" then some (Value.ref l'_0) else List.lookup y [(Str.ofString "statement", v)].reverse) mk (preL st.bodies.flatten)) F'_0
    (news := (27, tabObj ps'_0) :: (l'_0, listOf [].toArray 0) :: (D'_0, listOf vs'_0.reverse.toArray 0) :: nw'_0) (fun p hp => N'_0 p ?_)
    ⟨none, ps'_0, nw'_0, [], vs'_0.reverse, 0, 0, [], st.bodies.flatten, ?_, rfl, T'_0, by rw [toDs.eq_1]; exact .nil, ?_, ⟨o1_0, oF, oD⟩, by rw [List.nil_append], rfl⟩ ?turn
  · simp only [List.mem_cons] at hp ⊢
    rcases hp with hp | hp | hp | hp <;> simp only [hp, true_or, or_true]
  · funext y
    by_cases hy : y = Str.ofString "one"
    · subst hy; rfl
    · rw [if_neg hy]
  · rw [List.map_reverse]; exact dv'_0.reverse
  clear F'_0 N'_0 T'_0 o1_0 o2_0 o3_0 dv'_0 hq'_0 o4_0 l1_1 l2_1 o5_0 hl'_0 oD oF l1_0 l2_0 gT gv hP
  intro n m₁ news₁ h₁ tk₁ F N hJ
  obtain ⟨o, ps, nw, fs, ls, nF, nL, done, todo, rfl, rfl, T, dF, dL, ⟨o1, o2, o3⟩, hcat, rfl⟩ := hJ
  have hlen : done.length + (preL todo).length ≤ 1000 := by
    have := congrArg List.length hcat
    rw [List.length_append] at this; lia
  have hfs := dF.length
  rw [toDs_len] at hfs
  have htl := len_preL todo
  have hls := dL.length
  rw [List.length_map, List.length_reverse] at hls
  cases todo with
  | nil =>
    cases dL
    clear hls hfs htl
    k_steps
    all_goals (try dsimp only)
    k_extra "og_peel"
    rename Fr _ _ _ _ => F9
    rename News _ _ _ _ => N9
    rw [preL_nil, List.append_nil] at hcat
    subst hcat
    refine h _ _ l'_0 fs nF (kp_fin hg1 F9 (by simp) (Nat.le_refl _)) (TabN.tabV F9 N9 (by k_mem) (by (k_extra "og_memb")) T) (Nat.le_of_lt LF) (N9.get (by k_mem)) (dvs_up F9 N9 (by (k_extra "og_memb")) dF)
  | cons t todo =>
    have hbl2 := len_preL t.bodies.flatten
    have htl2 := len_preL todo
    rw [preL.eq_2, pre_bodies, List.cons_append, List.length_cons, List.length_append] at hlen
    rw [List.reverse_cons, List.map_append] at dL
    obtain ⟨ls, v', rfl, dL, dt⟩ := Dvs.snoc (d := t.toD mk) dL
    rw [List.length_append] at hls
    simp only [List.length_cons, List.length_nil] at hls htl
    k_steps
    all_goals (try dsimp only)
    k_extra "og_peel"
    rename_i tk'9 a9 vs9 nw9 ps9 T9 p1 p2 p3 p5 dv9 hl9 hq9 p4 D9 h9 q1 q2 h8 F9 N9
    refine WhileStep.intro (news₂ := (27, tabObj ps9) :: (l'_0, listOf (fs ++ [v']).toArray (nF + 1)) :: (D'_0, listOf (ls ++ vs9.reverse).toArray (if vs9.reverse.length = 0 then nL + 1 else nL + 1 + 1)) :: (nw ++ nw9))
      (n' := (preL (t.bodies.flatten ++ todo)).length) F9 (fun p hp => N9 p ?_) ?_ ⟨some v', ps9, nw ++ nw9, fs ++ [v'], ls ++ vs9.reverse, _, _, done ++ [t], t.bodies.flatten ++ todo, ?_, rfl, T9.mono fun p hp => List.mem_append_right _ hp, ?_, ?_, ⟨?_, ?_, ?_⟩, ?_, rfl⟩
    · simp only [List.mem_cons] at hp ⊢
      rcases hp with hp | hp | hp | hp <;> simp only [hp, true_or, or_true]
    · rw [preL.eq_2, pre_bodies, preL_app, List.length_append, List.length_append, List.length_cons]; lia
    · funext y
      by_cases hy : y = Str.ofString "one"
      · subst hy; rfl
      · rw [if_neg hy, if_neg hy, if_neg hy]
    · rw [toDs_append, toDs.eq_2, toDs.eq_1]
      exact (dF.mono fun a vs n x => x.imp id fun y => List.mem_append_left _ y).append (.one (dt.mono fun a vs n x => x.imp id fun y => List.mem_append_left _ y))
    · rw [List.reverse_append, List.map_append, List.map_reverse (l := t.bodies.flatten)]
      exact (dL.mono fun a vs n x => x.imp id fun y => List.mem_append_left _ y).append (dv9.reverse.mono fun a vs n x => x.imp id fun y => List.mem_append_right _ y)
    · exact List.forall_mem_append.mpr ⟨o1, p1⟩
    · exact List.forall_mem_append.mpr ⟨o2, offL p3 (by k_mem)⟩
    · exact List.forall_mem_append.mpr ⟨o3, offL p3 (by k_mem)⟩
    · rw [← hcat, preL.eq_2, pre_bodies, preL_app, List.append_assoc]; rfl
theorem rulesOgReb : True := by
  w_top off
  k_with_none
  k_with "spliced" => ((with_reducible show wpAny _ _ (spliced (backTo _ (starEach (_ :: _) _))) _ _ _); k_dflt (refine' args_at ?ogF ?ogk ?ogv ?_; (case ogF => k_asm); (case ogk => rfl); (case ogv => rfl)); k_whole)
  k_with "eval Constant int" => refine int_at ?_
  k_with "eval Constant str" => refine str_at ?_
  k_with "eval Call" => (k_dflt (first | (refine' callK_at ?ogF ?ogX ?ogT ?oge ?ogf ?ogk ?ogg ?ogd ?ogv ?_; (case ogX => k_asm); (case ogT => k_asm); (case oge => k_is); (case ogf => k_is); (case ogg => rfl); (case ogd => rfl); (case ogF => k_asm); (case ogk => rfl); (case ogv => rfl); k_whole) | (refine' callB_at ?ogF ?ogX ?ogT ?oge ?ogb ?ogi ?ogn ?ogk ?ogg ?ogd ?ogv ?_; (case ogX => k_asm); (case ogT => k_asm); (case oge => k_is); (case ogb => boot_fast); (case ogi => rfl); (case ogn => decide); (case ogg => rfl); (case ogd => rfl); (case ogF => k_asm); (case ogk => rfl); (case ogv => rfl); k_whole)))
  k_with "eval Subscript" => (k_dflt (refine' sub_at ?ogF ?ogk ?ogv ?ogw ?_; (case ogF => k_asm); (case ogk => rfl); (case ogv => rfl); (case ogw => rfl)); k_whole)
  k_with "ite" => (k_closed; k_dflt (first | refine iteT rfl ?_ | refine iteF rfl ?_))
  k_with "isTrue Compare" => (k_dflt (refine' cmp_at ?ogF ?ogk ?ogv ?ogw ?ogb ?_; (case ogF => k_asm); (case ogk => rfl); (case ogv => rfl); (case ogw => rfl); (case ogb => rfl)); k_whole)
  k_with "execs cons" => ((with_reducible refine wpAny_execs_cons ?_); (try dsimp only); (try clear qk ek); (try k_fold))
  k_with "og_mem" => first | with_reducible assumption | (refine memI ?_; with_reducible assumption) | (refine List.mem_append_right _ ?_; k_mem) | (refine List.mem_append_left _ ?_; k_mem)
  k_with "og_neo" => first | exact neLt (by assumption) (by k_mem) | exact neGt (by assumption) (by k_mem) | (refine neN ?_; (try dsimp only); lia)
  k_with "og_ne" => first | assumption | exact Ne.symm (by assumption) | (k_extra "og_neo")
  k_with "og_all" => first | assumption | exact neAll (by assumption) (fun _ h => h) | exact neAll (by assumption) (by intro p hp; k_mem) | exact off1 (by assumption) (by assumption) | exact LCg_lt (by assumption) | exact offL (by assumption) (by k_mem) | exact off_tup (by assumption) (by assumption) (by intro p hp; k_mem) (by k_mem) | (refine List.forall_mem_append.mpr ⟨?_, ?_⟩ <;> k_all) | exact off1 (by assumption) (by lia)
  k_with "og_d" => first | exact dlt hd rfl rfl | exact dlt0 hd rfl rfl | exact dle hd rfl rfl | exact dle0 hd rfl rfl | exact dlq hd rfl rfl | exact dlq0 hd rfl rfl | exact dmk hd rfl | exact drk hd rfl | exact drk0 hd rfl | (simp only [depth_deeper, depth_in1]; lia)
  k_with "og_u" => first | exact dlt hu rfl rfl | exact dlt0 hu rfl rfl | exact dle hu rfl rfl | exact dle0 hu rfl rfl | exact dlq hu rfl rfl | exact dlq0 hu rfl rfl | exact umk hu rfl | exact urk hu rfl | exact urk0 hu rfl | (simp only [units_deeper, units_in1]; lia)
  k_with "og_memb" => (repeat' (first | exact List.forall_mem_nil _ | (intro p hp; k_mem; done) | refine List.forall_mem_append.mpr ⟨?_, ?_⟩ | refine List.forall_mem_cons.mpr ⟨?_, ?_⟩ | k_mem))
  k_with "og_peel" => ((try dsimp +zetaDelta only [List.nil_append, List.cons_append] at *); (repeat (first | clear ledk | clear mk | clear qk | clear ek)))
  k_with "newTuple" => (k_dflt (refine' newtup_le ?ogF ?ogN ?_ ?ogz; (case ogF => k_asm); (case ogN => k_asm); (case ogz => kmk_size)); intro _ _ ledk _ _ l1; (try (dsimp +zetaDelta only at l1; k_lt l1)); (try k_sweep); (try (revert l1; intros)))
  k_with "eval Tuple" => (k_dflt (refine' tup_le ?ogF ?ogN ?ogk ?ogv ?ogz ?_; (case ogN => k_asm); (case ogF => k_asm); (case ogk => rfl); (case ogv => rfl); (case ogz => kmk_size)); k_whole; intro _ _ ledk _ _ l1; (try (dsimp +zetaDelta only at l1; k_lt l1)); (try k_sweep); (try (revert l1; intros)))
  k_with "storeName" => (k_dflt (refine' store_le ?ogF ?ogN ?_ ?oga ?ogb; (case ogF => k_asm); (case ogN => k_asm); (case oga => rfl); (case ogb => rfl)); k_whole; intro _ mk _ _; (try k_sweep))
  k_with "call builtin:list.append" => ((with_reducible show wpAny _ _ (call (Value.builtin _) [Value.ref _, _]) _ _ _); k_dflt (refine' append_le ?ogF ?ogN ?ogU ?_ ?ogz; (case ogF => k_asm); (case ogN => k_asm); (case ogU => k_upd); (case ogz => ((try simp only [List.length_append, List.length_cons, List.length_nil]); lia))); k_whole; intro _ ledk _ _; (try k_sweep))
  k_with "eval Name" => ((with_reducible show wpAny _ _ (eval (Expr.Name _ _) (envX _ _ _ _ _ _)) _ _ _); k_dflt (refine' nameX_Fg ?ogN ?ogc ?ogm ?ogd ?_ ?oga ?ogb; (case oga => rfl); (case ogb => rfl); (case ogN => k_asm); (case ogc => rfl); (case ogm => assumption); (case ogd => assumption)); k_whole)
  k_with "eval Name" => ((with_reducible show wpAny _ _ (eval (Expr.Name _ _) (compEnvC _ _ _ _)) _ _ _); k_dflt (refine' compFree_g ?ogN ?ogc ?ogm ?ogd ?_ ?oga ?ogb; (case oga => rfl); (case ogb => rfl); (case ogN => k_asm); (case ogc => rfl); (case ogm => assumption); (case ogd => assumption)); k_whole)
  k_with "FnAt" => (exact fn_g (by k_asm) (by assumption))
  k_with "callWith ref" => (k_dflt (refine' callWith_F ?ogk1 ?_; (case ogk1 => exact fn_g (by k_asm) (by assumption)); k_whole))
  k_with "eval ListComp" => (k_dflt (refine' comp_tup ?ogF0 ?ogh1 ?ogh2 ?ogh3 ?ogh4 ?ogh5 ?ogh6 ?_ ?oghs; (case ogF0 => k_asm); (case ogh1 => exact rfl); (case ogh2 => decide); (case ogh3 => exact rfl); (case ogh4 => decide); (case ogh5 => exact rfl); (case ogh6 => k_asm); (case oghs => (intro _; rfl)); k_whole))
  k_with "call ref" => (k_dflt (refine' call_to ?ogC ?ogHS ?oghx ?oghvals ?ogB ?ogF ?ogN ?oghg1 ?oghV ?oghl ?oghS ?oghd ?oghbd ?oghc ?oghmo ?oghml ?oghr ?oghim ?ogA ?ogdp ?ogu ?_; (case ogC => assumption); (case ogHS => assumption); (case oghvals => exact rfl); (case oghS => assumption); (case oghd => first | with_reducible assumption | exact up0 (by with_reducible assumption)); (case oghx => assumption); (case ogB => assumption); (case ogF => k_asm); (case ogN => k_asm); (case oghg1 => assumption); (case oghV => assumption); (case oghl => assumption); (case oghbd => first | assumption | ((try dsimp only); lia)); (case oghc => assumption); (case oghmo => assumption); (case oghml => (k_extra "og_memb")); (case oghr => (repeat' (first | exact RestV.nil | (refine' RestV.skip ?ogr1 ?_; (case ogr1 => assumption)) | (refine' RestV.skips ?ogr1 ?_; (case ogr1 => assumption)) | (refine' RestV.skipsEnd ?ogr1; (case ogr1 => assumption)) | (refine' RestV.keep ?ogr1 ?_; (case ogr1 => assumption)) | (refine' RestV.keeps ?ogr1 ?_; (case ogr1 => assumption)) | (refine' RestV.keepsEnd ?ogr1; (case ogr1 => assumption))))); (case oghim => (k_extra "og_memb")); (case ogA => k_asm); (case ogdp => (k_extra "og_d")); (case ogu => (k_extra "og_u")); k_whole); intro h' tk' r mo' nw F' N' c1 c2 c3 c4 S' d'; (try dsimp only); (try simp only [List.cons_append, List.nil_append, List.append_assoc] at N'); (try k_sweep); (try (revert h' tk' r mo' nw F' N' c1 c2 c3 c4 S' d'; intros)))
  trivial
theorem reb_step {prog : Program} {w : World} {c : Nat} {Ms : List Nat} {S : (Addr → Obj → Prop) → List D → Prop} {mk : Str} {rebD : St → D} {e : St → List D} {K U n K0 U0 : Nat} (HS : ChgS Ms S)
    (C : ChgTo prog w c (fun v => [v]) Ms S (fun _ => True) (St.exch mk fun b => .tup (b.map rebD)) rebD e K0 U0) (h0 : K0 ≤ K) (h1 : U0 ≤ U) (h46 : ∀ {V : Addr → Obj → Prop} {l : List D} {h : Heap} {ps : Array Value}, Sub V (Hv h) → V 46 (tabObj ps) → S V l → S (fun a o => V a o ∧ a ≠ 46) l)
    (IH : ChgTo prog w 51 (fun v => [v, .ref c]) (46 :: Ms) (RebS Ms S c) (fun st => st.lev < n ∧ st.pre.length ≤ 1000) (St.toD mk) rebD (fun st => st.post.flatMap e) K U) :
    ChgTo prog w 51 (fun v => [v, .ref c]) (46 :: Ms) (RebS Ms S c) (fun st => st.lev < n + 1 ∧ st.pre.length ≤ 1000) (St.toD mk) rebD (fun st => st.post.flatMap e) (K + 10) (U + 30) := by
  intro A s G R v st l V hlev B kp hMs hV hS hv hbd hA hd hu h
  replace hlev : st.lev < n + 1 ∧ st.pre.length ≤ 1000 := hlev
  replace hbd : l.length + (st.post.flatMap e).length ≤ 1000 := hbd
  have hrm : A.depth < recursionLimit := Nat.lt_trans (by first | exact Nat.lt_of_le_of_lt (Nat.le_add_right _ _) (Nat.lt_trans hd (by decide)) | exact Nat.lt_of_le_of_lt hd (by decide) | lia) (show 800 < recursionLimit by decide)
  have hS9 := hS
  obtain ⟨hS, T, hfn⟩ := hS
  have hnow := now_led (Ms := Ms) (G := G) (h₀ := s.heap) fun q hq => ⟨hMs q (.tail _ hq), let ⟨o, y, _⟩ := HS.has hS q hq; ⟨o, hV _ _ y⟩⟩
  obtain ⟨hled, hcov, hmM, hl₀⟩ := hnow
  have hS0 := HS.mono (vv_start hV hcov fun p hp => (hled p hp).1) hS
  have hmo : ∀ q ∈ Ms, q < s.heap.objs.size := fun q hq => let ⟨o, y, _⟩ := HS.has hS q hq; Heap.lt_size (hV _ _ y)
  generalize nowOf Ms s.heap = mo at hled hcov hmM hl₀ hS0
  have hmo1 : ∀ q ∈ 46 :: Ms, q < s.heap.objs.size := List.forall_mem_cons.mpr ⟨let ⟨ps, q⟩ := T.has; Heap.lt_size (hV _ _ q.1), hmo⟩
  have l46 : (46 : Nat) < s.heap.objs.size := hmo1 _ (.head _)
  have ntup : ∀ q ws n, V q (tupOf ws n) → q ∉ 46 :: Ms := fun q ws n hq hm => by
    obtain ⟨o, y, n⟩ := (rebS HS).has hS9 q hm
    have e1 : s.heap.get? q = some o := hV _ _ y
    have e2 : s.heap.get? q = some (tupOf ws _) := hV _ _ hq
    rw [e2] at e1
    cases e1; exact n rfl
  have nc46 : c ∉ 46 :: Ms := by
    obtain ⟨ps, h4⟩ := T.has
    obtain ⟨a, b, d, e, q⟩ := hfn
    have := ne_data (hV _ _ q.1) (hV _ _ h4.1) nofun
    simp only [List.mem_cons, not_or]; exact ⟨this, q.2⟩
  have hpost : st.post.flatMap e = (st.bodies.flatMap fun b => (postL b).flatMap e) ++ e st := by
    rw [post_bodies, List.flatMap_append, List.flatMap_assoc]; simp
  have hbd2 : l.length + (st.bodies.flatMap fun b => (postL b).flatMap e).length ≤ 1000 := by
    rw [hpost, List.length_append] at hbd; lia
  have hbd3 : l.length + (st.bodies.flatMap fun b => (postL b).flatMap e).length + (e st).length ≤ 1000 := by
    rw [hpost, List.length_append] at hbd; lia
  clear hS9
  rcases T with hP | ⟨c', oc, vs, t, hP, hc, hcd, hcv⟩
  · refine' enterC (binds := [(Str.ofString "statement", v), (Str.ofString "change", .ref c)]) B kp ((46, tabObj #[]) :: mo) ?_ ?_ ?_ hrm ?_ ?_ ?_ ?_ ?_ ?_ ?_
    any_goals k_is
    any_goals (exact BindsTo.of_eq rfl)
    any_goals (first | rfl | decide)
    · exact List.forall_mem_cons.mpr ⟨⟨hV _ _ hP.1, hMs _ (.head _)⟩, hled⟩
    intro g h₁ tk' cells hg1 hg2 F N Y l1 B'
    obtain ⟨o1, hcs, c1⟩ := CellsAre.one Y
    subst hcs
    replace c1 : o1.data = .cell (some (.ref c)) := c1
    try simp only [List.cons_append, List.nil_append] at N
    have X := B'.X
    obtain ⟨p, loose, mean, mg, mb, Tp⟩ := B'.T
    have CH : CodeHd g 50 46 := codeAll_mem B'.C (50, 46) (by simp)
    have hl₁ : ∀ a ∈ ((46, tabObj #[]) :: mo).map (·.1), a ∈ 46 :: Ms := List.forall_mem_cons.mpr ⟨.head _, fun a ha => .tail _ (hl₀ a ha)⟩
    have gc : FnAt c g := let ⟨a, b, d, e, q⟩ := hfn; ⟨a, b, d, e, vv_g hg1 hV hl₁ q.1 nc46⟩
    have hne : ∀ p ∈ mo, p.1 ≠ 46 := fun p hp e => hP.2 (e ▸ hmM p hp)
    have nl9 : s.heap.objs.size + 1 ∉ 46 :: Ms := lt_off hmo1 (Nat.le_succ _)
    clear kp B hg2 hrm Y
    k_steps
    all_goals (try dsimp only)
    k_extra "og_peel"
    rename_i f'_0 c'_0 oc'_0 vs'_0 t'_0 ct'_0 h'_0 tk'_0 F'_0 N'_0 d1'_0 d2'_0 l1_0 l2_0
    have nc9 : c'_0 ∉ 46 :: Ms := lt_off hmo1 (by have := l1_0.1; lia)
    have nf9 : f'_0 ∉ 46 :: Ms := lt_off hmo1 (by have := l1_0.1; lia)
    refine' call_lam_exch (mk := mk) (st := st) (rebD := rebD) (e := e) (ok := fun b => b.length ≤ 1000 ∧ ∀ x ∈ b, x.lev < n ∧ x.pre.length ≤ 1000) (K := K + 3) (U := U + 9) (cell := s.heap.objs.size + 1) (ocell := o1) (mo := (46, tabObj #[rawInt (38 : Nat), rawInt (46 : Nat), .ref c'_0]) :: mo) (im := [_, (c'_0, oc'_0), (s.heap.objs.size + 1, o1)]) (c := c) (S := S) (Ms := Ms) (an := Str.ofString "body") (vs' := vs'_0) (t' := t'_0) (oc := oc'_0)
      HS (ok_bodies hlev) B' (by k_asm) (by k_asm) (by k_mem) hg1 hV hl₁ ?hS ?hX ⟨.head _, nf9⟩ ?kc ?kl ?hv ?hbd ?hcv ?hmo ?hml ?hr ?him hA ?hdp ?hu d1'_0 d2'_0 ?b1 ?b2 ?b3 ?b4 ?b5 ?b6 ?turn ?hh
    case hS =>
      refine HS.mono (fun a o x => ?_) (h46 hV hP.1 hS)
      by_cases q : a ∈ Ms
      · obtain ⟨o', ho'⟩ := hcov a q
        have e := (hled _ ho').1
        rw [hV _ _ x.1] at e
        cases e
        exact .inr (List.mem_append_left _ (.tail _ ho'))
      · exact .inl ⟨x.1, by simp only [List.mem_cons, not_or]; exact ⟨x.2, q⟩⟩
    case hX => exact ⟨.inr ⟨c'_0, oc'_0, vs'_0, t'_0, ⟨.inr (by simp), hP.2⟩, ⟨.inr (by simp), fun q => nc9 (.tail _ q)⟩, d1'_0, d2'_0⟩, let ⟨a, b, d, e, q⟩ := hfn; ⟨a, b, d, e, .inl ⟨q.1, nc46⟩, q.2⟩⟩
    case kc => exact ⟨.inr (by simp), nc9⟩
    case kl => exact ⟨by simp, nl9⟩
    case hv => exact hv.mono fun q ws n y => .inl ⟨y, ntup _ _ _ y⟩
    case hbd => exact hbd2
    case hcv => exact List.forall_mem_cons.mpr ⟨⟨_, .head _⟩, fun a ha => let ⟨o, ho⟩ := hcov a ha; ⟨o, .tail _ ho⟩⟩
    case hmo => exact List.forall_mem_cons.mpr ⟨.head _, fun p hp => .tail _ (hmM p hp)⟩
    case hml => exact (by (k_extra "og_memb"))
    case hr => (repeat' (first | exact RestV.nil | (refine' RestV.skip ?r1 ?_; (case r1 => (first | assumption | k_mem))) | (refine' RestV.skips ?r1 ?_; (case r1 => assumption)) | (refine' RestV.skipsEnd ?r1; (case r1 => first | assumption | exact fun p hp => List.mem_cons_of_mem _ (hmM p hp))) | (refine' RestV.keep ?r1 ?_; (case r1 => assumption)) | (refine' RestV.keeps ?r1 ?_; (case r1 => assumption)) | (refine' RestV.keepsEnd ?r1; (case r1 => assumption))))
    case him => exact (by (k_extra "og_memb"))
    case hdp => k_extra "og_d"
    case hu => k_extra "og_u"
    case b1 => exact fun v => rfl
    case b2 => exact rfl
    case b3 => decide
    case b4 => exact rfl
    case b5 => exact rfl
    case b6 => exact rfl

    case turn =>
      clear h hA hd hu X Tp CH hP hg1 B' hbd hv hS hmo hS0 hV hled hcov hmM hl₀ l46 hMs hl₁ hne gc
      k_extra "og_peel"
      rename Fr _ _ _ _ => F9
      rename News _ _ _ _ => N9
      clear F9 N9
      intro A s g h₁ h₀ L tk v x l0 V mo Q S' eS hx hA hd hu hg1 F N B' hV hl₀ hcov hmM hS hcellg htg hv hbd hQ
      have X := B'.X
      obtain ⟨p, loose, mean, mg, mb, Tp⟩ := B'.T
      obtain ⟨av, vs, nv, hva, hvs⟩ := dvt hv
      have ga := htg _ _ _ (hva.elim (fun q => q.1) (fun q => nomatch q))
      clear hva hv htg
      rw [toDs_map] at hvs
      have hvl := hvs.length
      rw [List.length_map] at hvl
      have hx1 := hx.1
      replace hvl : vs.length ≤ 1000 := by lia
      k_steps
      all_goals (try dsimp only)
      refine' comp_tups (α := St) (δ := St.toD mk) (f := rebD) (e := fun st => st.post.flatMap e) (ok := fun st => st.lev < n ∧ st.pre.length ≤ 1000) (src := x) (x0 := []) (mo := mo) (S := S') (Ms := 46 :: Ms) (V := V) (l := l0) ?hbd ?HS ?F ?N ?hsub ga hcov hmM hS ?hsz hvs hx.2 ?fin ?turn ?hx0
      case hbd => rw [← post_flat]; exact hbd
      case HS => rw [eS]; exact lamS HS
      case F => k_asm
      case N => k_asm
      case hsub => exact (by (k_extra "og_memb"))
      case hsz => exact hvl
      case hx0 => exact List.forall_mem_nil _
      case fin =>
        clear N F
        intro s₂ hs₂ ys mo' nw D' h tk F N hD hc' hm' hn' hx0 hS' dy
        obtain ⟨h9, rfl⟩ := hs₂
        simp only [List.nil_append] at N hx0
        have hyl := dy.length
        rw [List.length_map] at hyl
        replace hyl : ys.length ≤ 1000 := by lia
        try dsimp only
        k_steps
        all_goals (try dsimp only)
        k_extra "og_peel"
        rename Fr _ _ _ _ => F8
        rename News _ _ _ _ => N8
        rename_i T9 h8 kk9
        refine hQ _ _ (.ref T9) mo' ((T9, tupOf ys 0) :: nw) _ _ F8 N8 (by (k_extra "og_memb")) ?_ (.tup (n := 0) (.inr (.head _)) (dy.sub (vv_sub fun p hp => .tail _ hp)))
        rw [post_flat, eS]
        rw [eS] at hS'
        exact (lamS HS).mono (vv_sub (by (k_extra "og_memb"))) hS'
      case turn =>
        clear hQ hS N F hbd
        intro s₂ hs₂ v x ys l' mo nw I oI C' oC D' m₂ h tk E' dv hx hC hm F N i1 i2 i3 ne hc' hm' hn' hS' hbd
        obtain ⟨h9, rfl⟩ := hs₂
        simp only [List.nil_append] at N
        have IH' : ChgTo prog w 51 (fun v => [v, .ref c]) (46 :: Ms) S' (fun st => st.lev < n ∧ st.pre.length ≤ 1000) (St.toD mk) rebD (fun st => st.post.flatMap e) K U := by rw [eS]; exact ChgTo.frame keep_up (rebS HS) (fun a h => h) @IH
        have HL : ChgS (46 :: Ms) S' := by rw [eS]; exact lamS HS
        clear IH eS
        try dsimp only
        k_steps
        refine t_turn_end (mo := mo) (by k_asm) (by k_asm) (by assumption) (by assumption) (by assumption) (by assumption) (by assumption) (by assumption)
    case hh =>
      k_extra "og_peel"
      rename Fr _ _ _ _ => F9
      rename News _ _ _ _ => N9
      clear F9
      have N0 := N9
      clear N9
      intro h' tk' r mo' nw F' N' q1 q2 q3 q4 S' d'
      clear N0
      try simp only [List.cons_append, List.nil_append, List.append_assoc] at N'
      k_steps
      all_goals (try dsimp only)
      have C' : ChgTo prog w c (fun v => [v]) (46 :: Ms) (RebS Ms S c) (fun _ => True) (St.exch mk fun b => .tup (b.map rebD)) rebD e K0 U0 := ChgTo.frame rx_up HS (fun a ha => .tail _ ha) @C
      refine' call_to (x := st) @C' (rebS HS) trivial rfl B' (by k_asm) N' hg1 hV hl₁ S' d' ?hbd q1 q2 ?hml ?hr ?him hA ?hdp ?hu ?hh
      case hbd =>
        rw [List.length_append]
        exact hbd3
      case hml => exact (by (k_extra "og_memb"))
      case hr => (repeat' (first | exact RestV.nil | (refine' RestV.skip ?r1 ?_; (case r1 => (first | assumption | k_mem))) | (refine' RestV.skips ?r1 ?_; (case r1 => assumption)) | (refine' RestV.skipsEnd ?r1; (case r1 => first | assumption | exact fun p hp => List.mem_cons_of_mem _ (hmM p hp))) | (refine' RestV.keep ?r1 ?_; (case r1 => assumption)) | (refine' RestV.keeps ?r1 ?_; (case r1 => assumption)) | (refine' RestV.keepsEnd ?r1; (case r1 => assumption))))
      case him => exact (by (k_extra "og_memb"))
      case hdp => k_extra "og_d"
      case hu => k_extra "og_u"
      case hh =>
        clear N'
        intro h' tk' r mo2 nw2 F' N' e1 e2 e3 e4 S2 d2
        refine h _ _ _ (kp_fin hg1 F' hl₁ (Nat.le_refl _)) ?_ ?_
        · show RebS Ms S c _ (l ++ st.post.flatMap e)
          rw [hpost, ← List.append_assoc]
          exact (rebS HS).mono (aft_end hg1 F' N' hV hl₁ (by (k_extra "og_memb"))) S2
        · exact d2.sub (aft_end hg1 F' N' hV hl₁ (by (k_extra "og_memb")))
  · refine' enterC (binds := [(Str.ofString "statement", v), (Str.ofString "change", .ref c)]) B kp ((46, tabObj #[rawInt (38 : Nat), rawInt (46 : Nat), .ref c']) :: mo) ?_ ?_ ?_ hrm ?_ ?_ ?_ ?_ ?_ ?_ ?_
    any_goals k_is
    any_goals (exact BindsTo.of_eq rfl)
    any_goals (first | rfl | decide)
    · exact List.forall_mem_cons.mpr ⟨⟨hV _ _ hP.1, hMs _ (.head _)⟩, hled⟩
    intro g h₁ tk' cells hg1 hg2 F N Y l1 B'
    obtain ⟨o1, hcs, c1⟩ := CellsAre.one Y
    subst hcs
    replace c1 : o1.data = .cell (some (.ref c)) := c1
    try simp only [List.cons_append, List.nil_append] at N
    have X := B'.X
    obtain ⟨p, loose, mean, mg, mb, Tp⟩ := B'.T
    have CH : CodeHd g 50 46 := codeAll_mem B'.C (50, 46) (by simp)
    have hl₁ : ∀ a ∈ ((46, tabObj #[rawInt (38 : Nat), rawInt (46 : Nat), .ref c']) :: mo).map (·.1), a ∈ 46 :: Ms := List.forall_mem_cons.mpr ⟨.head _, fun a ha => .tail _ (hl₀ a ha)⟩
    have gc : FnAt c g := let ⟨a, b, d, e, q⟩ := hfn; ⟨a, b, d, e, vv_g hg1 hV hl₁ q.1 nc46⟩
    have hne : ∀ p ∈ mo, p.1 ≠ 46 := fun p hp e => hP.2 (e ▸ hmM p hp)
    have nl9 : s.heap.objs.size + 1 ∉ 46 :: Ms := lt_off hmo1 (Nat.le_succ _)
    have n46 : c' ≠ 46 := ne_data (hV _ _ hc.1) (hV _ _ hP.1) (by rw [hcd]; intro q; injection q with q; rw [q] at hcv; simp [rawInt] at hcv)
    have nc9 : c' ∉ 46 :: Ms := by simp only [List.mem_cons, not_or]; exact ⟨n46, hc.2⟩
    have gc' : g.get? c' = some oc := vv_g hg1 hV hl₁ hc.1 nc9
    have HC : g.CodeRec (.ref c') qualR := ⟨c', oc, vs, t, rfl, gc', hcd, hcv⟩
    clear kp B hg2 hrm Y
    k_steps
    all_goals (try dsimp only)
    k_extra "og_peel"
    rename_i f'_0 ct'_0 h'_0 tk'_0 F'_0 N'_0 l1_0
    have nf9 : f'_0 ∉ 46 :: Ms := lt_off hmo1 (by have := l1_0.1; lia)
    refine' call_lam_exch (mk := mk) (st := st) (rebD := rebD) (e := e) (ok := fun b => b.length ≤ 1000 ∧ ∀ x ∈ b, x.lev < n ∧ x.pre.length ≤ 1000) (K := K + 3) (U := U + 9) (cell := s.heap.objs.size + 1) (ocell := o1) (mo := (46, tabObj #[rawInt (38 : Nat), rawInt (46 : Nat), .ref c']) :: mo) (im := [_, (s.heap.objs.size + 1, o1)]) (c := c) (S := S) (Ms := Ms) (an := Str.ofString "body") (vs' := vs) (t' := t) (oc := oc)
      HS (ok_bodies hlev) B' (by k_asm) (by k_asm) (by k_mem) hg1 hV hl₁ ?hS ?hX ⟨.head _, nf9⟩ ?kc ?kl ?hv ?hbd ?hcv ?hmo ?hml ?hr ?him hA ?hdp ?hu hcd hcv ?b1 ?b2 ?b3 ?b4 ?b5 ?b6 ?turn ?hh
    case hS =>
      refine HS.mono (fun a o x => ?_) (h46 hV hP.1 hS)
      by_cases q : a ∈ Ms
      · obtain ⟨o', ho'⟩ := hcov a q
        have e := (hled _ ho').1
        rw [hV _ _ x.1] at e
        cases e
        exact .inr (List.mem_append_left _ (.tail _ ho'))
      · exact .inl ⟨x.1, by simp only [List.mem_cons, not_or]; exact ⟨x.2, q⟩⟩
    case hX => exact ⟨.inr ⟨c', oc, vs, t, ⟨.inr (by simp), hP.2⟩, ⟨.inl ⟨hc.1, nc9⟩, hc.2⟩, hcd, hcv⟩, let ⟨a, b, d, e, q⟩ := hfn; ⟨a, b, d, e, .inl ⟨q.1, nc46⟩, q.2⟩⟩
    case kc => exact ⟨.inl ⟨hc.1, nc9⟩, nc9⟩
    case kl => exact ⟨by simp, nl9⟩
    case hv => exact hv.mono fun q ws n y => .inl ⟨y, ntup _ _ _ y⟩
    case hbd => exact hbd2
    case hcv => exact List.forall_mem_cons.mpr ⟨⟨_, .head _⟩, fun a ha => let ⟨o, ho⟩ := hcov a ha; ⟨o, .tail _ ho⟩⟩
    case hmo => exact List.forall_mem_cons.mpr ⟨.head _, fun p hp => .tail _ (hmM p hp)⟩
    case hml => exact (by (k_extra "og_memb"))
    case hr => (repeat' (first | exact RestV.nil | (refine' RestV.skip ?r1 ?_; (case r1 => (first | assumption | k_mem))) | (refine' RestV.skips ?r1 ?_; (case r1 => assumption)) | (refine' RestV.skipsEnd ?r1; (case r1 => first | assumption | exact fun p hp => List.mem_cons_of_mem _ (hmM p hp))) | (refine' RestV.keep ?r1 ?_; (case r1 => assumption)) | (refine' RestV.keeps ?r1 ?_; (case r1 => assumption)) | (refine' RestV.keepsEnd ?r1; (case r1 => assumption))))
    case him => exact (by (k_extra "og_memb"))
    case hdp => k_extra "og_d"
    case hu => k_extra "og_u"
    case b1 => exact fun v => rfl
    case b2 => exact rfl
    case b3 => decide
    case b4 => exact rfl
    case b5 => exact rfl
    case b6 => exact rfl

    case turn =>
      clear h hA hd hu X Tp CH hP hg1 B' hbd hv hS hmo hS0 hV hled hcov hmM hl₀ l46 hMs hl₁ hne gc
      k_extra "og_peel"
      rename Fr _ _ _ _ => F9
      rename News _ _ _ _ => N9
      clear F9 N9
      clear hcd hcv hc nc9 gc' HC n46
      intro A s g h₁ h₀ L tk v x l0 V mo Q S' eS hx hA hd hu hg1 F N B' hV hl₀ hcov hmM hS hcellg htg hv hbd hQ
      have X := B'.X
      obtain ⟨p, loose, mean, mg, mb, Tp⟩ := B'.T
      obtain ⟨av, vs, nv, hva, hvs⟩ := dvt hv
      have ga := htg _ _ _ (hva.elim (fun q => q.1) (fun q => nomatch q))
      clear hva hv htg
      rw [toDs_map] at hvs
      have hvl := hvs.length
      rw [List.length_map] at hvl
      have hx1 := hx.1
      replace hvl : vs.length ≤ 1000 := by lia
      k_steps
      all_goals (try dsimp only)
      refine' comp_tups (α := St) (δ := St.toD mk) (f := rebD) (e := fun st => st.post.flatMap e) (ok := fun st => st.lev < n ∧ st.pre.length ≤ 1000) (src := x) (x0 := []) (mo := mo) (S := S') (Ms := 46 :: Ms) (V := V) (l := l0) ?hbd ?HS ?F ?N ?hsub ga hcov hmM hS ?hsz hvs hx.2 ?fin ?turn ?hx0
      case hbd => rw [← post_flat]; exact hbd
      case HS => rw [eS]; exact lamS HS
      case F => k_asm
      case N => k_asm
      case hsub => exact (by (k_extra "og_memb"))
      case hsz => exact hvl
      case hx0 => exact List.forall_mem_nil _
      case fin =>
        clear N F
        intro s₂ hs₂ ys mo' nw D' h tk F N hD hc' hm' hn' hx0 hS' dy
        obtain ⟨h9, rfl⟩ := hs₂
        simp only [List.nil_append] at N hx0
        have hyl := dy.length
        rw [List.length_map] at hyl
        replace hyl : ys.length ≤ 1000 := by lia
        try dsimp only
        k_steps
        all_goals (try dsimp only)
        k_extra "og_peel"
        rename Fr _ _ _ _ => F8
        rename News _ _ _ _ => N8
        rename_i T9 h8 kk9
        refine hQ _ _ (.ref T9) mo' ((T9, tupOf ys 0) :: nw) _ _ F8 N8 (by (k_extra "og_memb")) ?_ (.tup (n := 0) (.inr (.head _)) (dy.sub (vv_sub fun p hp => .tail _ hp)))
        rw [post_flat, eS]
        rw [eS] at hS'
        exact (lamS HS).mono (vv_sub (by (k_extra "og_memb"))) hS'
      case turn =>
        clear hQ hS N F hbd
        intro s₂ hs₂ v x ys l' mo nw I oI C' oC D' m₂ h tk E' dv hx hC hm F N i1 i2 i3 ne hc' hm' hn' hS' hbd
        obtain ⟨h9, rfl⟩ := hs₂
        simp only [List.nil_append] at N
        have IH' : ChgTo prog w 51 (fun v => [v, .ref c]) (46 :: Ms) S' (fun st => st.lev < n ∧ st.pre.length ≤ 1000) (St.toD mk) rebD (fun st => st.post.flatMap e) K U := by rw [eS]; exact ChgTo.frame keep_up (rebS HS) (fun a h => h) @IH
        have HL : ChgS (46 :: Ms) S' := by rw [eS]; exact lamS HS
        clear IH eS
        try dsimp only
        k_steps
        refine t_turn_end (mo := mo) (by k_asm) (by k_asm) (by assumption) (by assumption) (by assumption) (by assumption) (by assumption) (by assumption)
    case hh =>
      k_extra "og_peel"
      rename Fr _ _ _ _ => F9
      rename News _ _ _ _ => N9
      clear F9
      have N0 := N9
      clear N9
      intro h' tk' r mo' nw F' N' q1 q2 q3 q4 S' d'
      clear N0
      try simp only [List.cons_append, List.nil_append, List.append_assoc] at N'
      k_steps
      all_goals (try dsimp only)
      have C' : ChgTo prog w c (fun v => [v]) (46 :: Ms) (RebS Ms S c) (fun _ => True) (St.exch mk fun b => .tup (b.map rebD)) rebD e K0 U0 := ChgTo.frame rx_up HS (fun a ha => .tail _ ha) @C
      refine' call_to (x := st) @C' (rebS HS) trivial rfl B' (by k_asm) N' hg1 hV hl₁ S' d' ?hbd q1 q2 ?hml ?hr ?him hA ?hdp ?hu ?hh
      case hbd =>
        rw [List.length_append]
        exact hbd3
      case hml => exact (by (k_extra "og_memb"))
      case hr => (repeat' (first | exact RestV.nil | (refine' RestV.skip ?r1 ?_; (case r1 => (first | assumption | k_mem))) | (refine' RestV.skips ?r1 ?_; (case r1 => assumption)) | (refine' RestV.skipsEnd ?r1; (case r1 => first | assumption | exact fun p hp => List.mem_cons_of_mem _ (hmM p hp))) | (refine' RestV.keep ?r1 ?_; (case r1 => assumption)) | (refine' RestV.keeps ?r1 ?_; (case r1 => assumption)) | (refine' RestV.keepsEnd ?r1; (case r1 => assumption))))
      case him => exact (by (k_extra "og_memb"))
      case hdp => k_extra "og_d"
      case hu => k_extra "og_u"
      case hh =>
        clear N'
        intro h' tk' r mo2 nw2 F' N' e1 e2 e3 e4 S2 d2
        refine h _ _ _ (kp_fin hg1 F' hl₁ (Nat.le_refl _)) ?_ ?_
        · show RebS Ms S c _ (l ++ st.post.flatMap e)
          rw [hpost, ← List.append_assoc]
          exact (rebS HS).mono (aft_end hg1 F' N' hV hl₁ (by (k_extra "og_memb"))) S2
        · exact d2.sub (aft_end hg1 F' N' hV hl₁ (by (k_extra "og_memb")))
theorem reb_all {prog : Program} {w : World} {c : Nat} {Ms : List Nat} {S : (Addr → Obj → Prop) → List D → Prop} {mk : Str} {rebD : St → D} {e : St → List D} {K U : Nat} (HS : ChgS Ms S)
    (C : ChgTo prog w c (fun v => [v]) Ms S (fun _ => True) (St.exch mk fun b => .tup (b.map rebD)) rebD e K U)
    (h46 : ∀ {V : Addr → Obj → Prop} {l : List D} {h : Heap} {ps : Array Value}, Sub V (Hv h) → V 46 (tabObj ps) → S V l → S (fun a o => V a o ∧ a ≠ 46) l) : ∀ n,
    ChgTo prog w 51 (fun v => [v, .ref c]) (46 :: Ms) (RebS Ms S c) (fun st => st.lev < n ∧ st.pre.length ≤ 1000) (St.toD mk) rebD (fun st => st.post.flatMap e) (K + 10 * n) (U + 30 * n)
  | 0 => by
    intro hx
    exact absurd hx.1 (Nat.not_lt_zero _)
  | n + 1 => reb_step HS @C (Nat.le_add_right _ _) (Nat.le_add_right _ _) h46 (reb_all HS @C h46 n)
noncomputable def Rf.fine : Rf → Prop
  | .leaf k => 0 ≤ k ∧ k < 3
  | .node k s => (0 ≤ k ∧ k < 3) ∧ s.fine
noncomputable def Rf.ok (r : Rf) : Prop := r.fine ∧ r.flat.length ≤ 4
theorem refF_fine : ∀ (f : Nat) (T : Tape), (refF f T).1.fine
  | 0, T => dval_range (by decide)
  | f + 1, T => by
    by_cases h : 0 < dval 3 (dnew 3 T)
    · rw [refF_pos h]; exact dval_range (by decide)
    · rw [refF_neg h]; exact ⟨dval_range (by decide), refF_fine f _⟩
theorem refF_okR (T : Tape) : (refF 3 T).1.ok := ⟨refF_fine 3 T, refF_len 3 T⟩
mutual
noncomputable def St.okR : St → Prop
  | .mv a b => a.ok ∧ b.ok
  | .iff a b x y => a.ok ∧ b.ok ∧ (x.length ≤ 2 ∧ okL x) ∧ (y.length ≤ 2 ∧ okL y)
  | .ev a x y z => a.ok ∧ (x.length ≤ 2 ∧ okL x) ∧ (y.length ≤ 2 ∧ okL y) ∧ (z.length ≤ 2 ∧ okL z)
  | .pf a b c x => a.ok ∧ b.ok ∧ c.ok ∧ (x.length ≤ 2 ∧ okL x)
  | .br _ a x y => a.ok ∧ (x.length ≤ 2 ∧ okL x) ∧ (y.length ≤ 2 ∧ okL y)
noncomputable def okL : List St → Prop
  | [] => True
  | s :: r => s.okR ∧ okL r
end
theorem bodyF_okL {mk : Tape → Nat → St × Tape} (h : ∀ T len, (mk T len).1.okR) : ∀ n T len, okL (bodyF mk n T len).1
  | 0, T, len => by rw [bodyF, okL.eq_1]; trivial
  | n + 1, T, len => by rw [bodyF, okL.eq_2]; exact ⟨h T len, bodyF_okL h n _ _⟩
theorem bodyAt_okL {mk : Tape → Nat → St × Tape} (h : ∀ T len, (mk T len).1.okR) (T : Tape) (len : Nat) : (bodyAt mk T len).1.length ≤ 2 ∧ okL (bodyAt mk T len).1 := ⟨by have := bodyF_len (mk := mk) (dval 3 T).toNat (dnew 3 T) len; have := nat2 T; unfold bodyAt; lia, bodyF_okL h _ _ _⟩
theorem mvF_okR (T : Tape) : (mvF T).1.okR := by show (St.mv _ _).okR; rw [St.okR.eq_1]; exact ⟨refF_okR _, refF_okR _⟩
theorem madeF_okR : ∀ d T len, (madeF d T len).1.okR
  | 0, T, len => by rw [madeF.eq_1]; exact mvF_okR T
  | d + 1, T, len => by
    have ih := madeF_okR d
    rw [madeF.eq_2]
    split
    · split
      · show (St.iff _ _ _ _).okR
        rw [St.okR.eq_2]; exact ⟨refF_okR _, refF_okR _, bodyAt_okL ih _ _, bodyAt_okL ih _ _⟩
      · split
        · show (St.ev _ _ _ _).okR
          rw [St.okR.eq_3]; exact ⟨refF_okR _, bodyAt_okL ih _ _, bodyAt_okL ih _ _, bodyAt_okL ih _ _⟩
        · split
          · show (St.pf _ _ _ _).okR
            rw [St.okR.eq_4]; exact ⟨refF_okR _, refF_okR _, refF_okR _, bodyAt_okL ih _ _⟩
          · split
            · show (St.br _ _ _ _).okR
              rw [St.okR.eq_5]; exact ⟨refF_okR _, bodyAt_okL ih _ _, bodyAt_okL ih _ _⟩
            · exact mvF_okR _
    · exact mvF_okR T
theorem lev_nil : St.lev.lev [] = 0 := by rw [St.lev.lev.eq_1]
theorem bodyF_lev {mk : Tape → Nat → St × Tape} {d : Nat} (h : ∀ T len, (mk T len).1.lev ≤ d) : ∀ n T len, St.lev.lev (bodyF mk n T len).1 ≤ d
  | 0, T, len => by rw [bodyF, lev_nil]; exact Nat.zero_le _
  | n + 1, T, len => by rw [bodyF, St.lev.lev.eq_2]; exact Nat.max_le.mpr ⟨h T len, bodyF_lev h n _ _⟩
theorem bodyAt_lev {mk : Tape → Nat → St × Tape} {d : Nat} (h : ∀ T len, (mk T len).1.lev ≤ d) (T : Tape) (len : Nat) : St.lev.lev (bodyAt mk T len).1 ≤ d := bodyF_lev h _ _ _
theorem mvF_lev (T : Tape) (d : Nat) : (mvF T).1.lev ≤ d := by show (St.mv _ _).lev ≤ d; rw [St.lev.eq_1]; exact Nat.zero_le _
theorem madeF_lev : ∀ d T len, (madeF d T len).1.lev ≤ d
  | 0, T, len => by rw [madeF.eq_1]; exact mvF_lev T 0
  | d + 1, T, len => by
    have ih := bodyAt_lev (madeF_lev d)
    rw [madeF.eq_2]
    split
    · split
      · show (St.iff _ _ _ _).lev ≤ _
        rw [St.lev.eq_2]; exact Nat.succ_le_succ (Nat.max_le.mpr ⟨ih _ _, ih _ _⟩)
      · split
        · show (St.ev _ _ _ _).lev ≤ _
          rw [St.lev.eq_3]; exact Nat.succ_le_succ (Nat.max_le.mpr ⟨ih _ _, Nat.max_le.mpr ⟨ih _ _, ih _ _⟩⟩)
        · split
          · show (St.pf _ _ _ _).lev ≤ _
            rw [St.lev.eq_4]; exact Nat.succ_le_succ (ih _ _)
          · split
            · show (St.br _ _ _ _).lev ≤ _
              rw [St.lev.eq_5]; exact Nat.succ_le_succ (Nat.max_le.mpr ⟨ih _ _, ih _ _⟩)
            · exact mvF_lev _ _
    · exact mvF_lev T _
mutual
theorem post_ok : ∀ (s : St), s.okR → ∀ x ∈ s.post, x.okR
  | .mv a b, h, x, hx => by
    rw [St.post.eq_1] at hx
    rw [List.mem_singleton.mp hx]; exact h
  | .iff a b p q, h, x, hx => by
    have h2 := h
    rw [St.okR.eq_2] at h2
    rw [St.post.eq_2] at hx
    simp only [List.mem_append, List.mem_singleton] at hx
    rcases hx with (hx | hx) | hx
    · exact postL_ok p h2.2.2.1.2 x hx
    · exact postL_ok q h2.2.2.2.2 x hx
    · rw [hx]; exact h
  | .ev a p q r, h, x, hx => by
    have h2 := h
    rw [St.okR.eq_3] at h2
    rw [St.post.eq_3] at hx
    simp only [List.mem_append, List.mem_singleton] at hx
    rcases hx with (hx | hx | hx) | hx
    · exact postL_ok p h2.2.1.2 x hx
    · exact postL_ok q h2.2.2.1.2 x hx
    · exact postL_ok r h2.2.2.2.2 x hx
    · rw [hx]; exact h
  | .pf a b c p, h, x, hx => by
    have h2 := h
    rw [St.okR.eq_4] at h2
    rw [St.post.eq_4] at hx
    simp only [List.mem_append, List.mem_singleton] at hx
    rcases hx with hx | hx
    · exact postL_ok p h2.2.2.2.2 x hx
    · rw [hx]; exact h
  | .br k a p q, h, x, hx => by
    have h2 := h
    rw [St.okR.eq_5] at h2
    rw [St.post.eq_5] at hx
    simp only [List.mem_append, List.mem_singleton] at hx
    rcases hx with (hx | hx) | hx
    · exact postL_ok p h2.2.1.2 x hx
    · exact postL_ok q h2.2.2.2 x hx
    · rw [hx]; exact h
theorem postL_ok : ∀ (l : List St), okL l → ∀ x ∈ postL l, x.okR
  | [], _, x, hx => by rw [postL.eq_1] at hx; exact nomatch hx
  | s :: r, h, x, hx => by
    rw [okL.eq_2] at h
    rw [postL.eq_2] at hx
    rcases List.mem_append.mp hx with hx | hx
    · exact post_ok s h.1 x hx
    · exact postL_ok r h.2 x hx
end
/-! values' measures -/
theorem isRef_n {ds : List D} (h : ds.length ≠ 5) : (D.tup ds).isRef = false := by
  cases e : (D.tup ds).isRef with
  | false => rfl
  | true => exact absurd (isRef_len e) h
theorem isRef_r {a b c d : D} : (D.tup [.str (Str.ofString "ref"), a, b, c, d]).isRef = true := by
  show (Str.ofString "ref" == Str.ofString "ref") = true
  exact beq_self_eq_true _
theorem refsD_n {ds : List D} (h : ds.length ≠ 5) : (D.tup ds).refsD = refsL ds := by rw [D.refsD.eq_1, isRef_n h]; rfl
theorem refsD_r {a b c d : D} : (D.tup [.str (Str.ofString "ref"), a, b, c, d]).refsD = .tup [.str (Str.ofString "ref"), a, b, c, d] :: refsL [a, b, c, d] := by
  rw [D.refsD.eq_1, isRef_r, if_pos rfl, refsL.eq_2, D.refsD.eq_5]; rfl
theorem refsD_s {x : Str} : (D.str x).refsD = [] := by rw [D.refsD.eq_5]
theorem refsD_i {x : Int} : (D.int x).refsD = [] := by rw [D.refsD.eq_4]
theorem refsD_b {x : Bool} : (D.bool x).refsD = [] := by rw [D.refsD.eq_3]
theorem refsD_0 : D.none.refsD = [] := by rw [D.refsD.eq_2]
theorem refsD_y {x : Array UInt8} : (D.bytes x).refsD = [] := by rw [D.refsD.eq_6]
theorem refsL_0 : refsL [] = [] := by rw [refsL.eq_1]
theorem refsL_c {d : D} {r : List D} : refsL (d :: r) = d.refsD ++ refsL r := by rw [refsL.eq_2]
theorem num_refs (i : Int) : (numD i).refsD = [] := by
  unfold numD
  rw [refsD_n (by simp), refsL_c, refsL_c, refsL_0, refsD_n (by simp), refsL_c, refsL_c, refsL_0, refsD_i, refsD_i]
  unfold sS; rw [refsD_s]; rfl
theorem rf_refs (mk : Str) : ∀ r : Rf, (r.toD mk).refsD = r.flat.map (Rf.toD mk)
  | .leaf k => by
    show (D.tup [.str (Str.ofString "ref"), .str (mk ++ letter k), .tup [], .tup [], .none]).refsD = [_]
    rw [refsD_r]
    simp only [refsL_c, refsL_0, refsD_s, refsD_0, refsD_n (ds := []) (by simp), List.append_nil]
    rfl
  | .node k s => by
    show (D.tup [.str (Str.ofString "ref"), .str (mk ++ letter k), .tup [sS "G"], .tup [.tup [sS "+", s.toD mk, numD 2]], .tup [numD 1, .none]]).refsD = _ :: s.flat.map (Rf.toD mk)
    rw [refsD_r, ← rf_refs mk s]
    unfold sS
    simp only [refsL_c, refsL_0, refsD_s, refsD_0, refsD_n (ds := [_]) (by simp), refsD_n (ds := [_, _]) (by simp), refsD_n (ds := [_, _, _]) (by simp), num_refs, List.append_nil, List.nil_append]
    rfl
theorem refs_exch (mk : Str) (st : St) : (st.exch mk fun _ => .tup []).refsD = st.refs.map (Rf.toD mk) := by
  have e0 : (D.tup []).refsD = [] := by rw [refsD_n (by simp), refsL_0]
  cases st with
  | mv a b =>
    show (St.toD mk (.mv a b)).refsD = (a.flat ++ b.flat).map (Rf.toD mk)
    rw [St.toD.eq_1, List.map_append, ← rf_refs, ← rf_refs]
    unfold sS refB
    simp only [refsL_c, refsL_0, refsD_s, refsD_y, refsD_n (ds := [_, _]) (by simp), refsD_n (ds := [_, _, _]) (by simp), List.append_nil, List.nil_append]
  | iff a b x y =>
    show (D.tup [sS "if", .tup [sS "not", .tup [sS "rel", sS "=", a.toD mk, b.toD mk]], .tup [], .tup []]).refsD = (a.flat ++ b.flat).map (Rf.toD mk)
    rw [List.map_append, ← rf_refs, ← rf_refs]
    unfold sS
    simp only [refsL_c, refsL_0, refsD_s, e0, refsD_n (ds := [_, _]) (by simp), refsD_n (ds := [_, _, _, _]) (by simp), List.append_nil, List.nil_append]
  | ev a x y z =>
    show (D.tup [sS "evaluate", .tup [.tup [sS "worth", a.toD mk]], .tup [.tup [.tup [.tup [.tup [sS "any"]]], .tup []], .tup [.tup [.tup [.tup [sS "is", .tup [sS "text", refB], .bool true]]], .tup []]], .tup []]).refsD = a.flat.map (Rf.toD mk)
    rw [← rf_refs]
    unfold sS refB
    simp only [refsL_c, refsL_0, refsD_s, refsD_y, refsD_b, e0, refsD_n (ds := [_]) (by simp), refsD_n (ds := [_, _]) (by simp), refsD_n (ds := [_, _, _]) (by simp), refsD_n (ds := [_, _, _, _]) (by simp), List.append_nil, List.nil_append]
  | pf a b c x =>
    show (D.tup [sS "perform", .tup [sS "body", .tup []], .tup [sS "varying", .bool false, .tup [.tup [a.toD mk, numD 1, b.toD mk, .tup [sS "named", c.toD mk]]]]]).refsD = (a.flat ++ (b.flat ++ c.flat)).map (Rf.toD mk)
    rw [List.map_append, List.map_append, ← rf_refs, ← rf_refs, ← rf_refs]
    unfold sS
    simp only [refsL_c, refsL_0, refsD_s, refsD_b, e0, num_refs, refsD_n (ds := [_]) (by simp), refsD_n (ds := [_, _]) (by simp), refsD_n (ds := [_, _, _]) (by simp), refsD_n (ds := [_, _, _, _]) (by simp), List.append_nil, List.nil_append]
  | br k a x y =>
    show (D.tup (brHead k mk a ++ [.tup [.tup [sS "end", .tup []], .tup [sS "not end", .tup []]]])).refsD = _
    by_cases h0 : k = 0
    · subst h0
      rw [refs_br0, ← rf_refs, brHead0]
      unfold sS
      simp only [List.cons_append, List.nil_append]
      rw [refsD_n (by simp)]
      simp only [refsL_c, refsL_0, refsD_s, refsD_b, refsD_0, e0, refsD_n (ds := [_, _]) (by simp), List.append_nil, List.nil_append]
    · by_cases h1 : k = 1
      · subst h1
        rw [refs_br1, List.map_append, ← rf_refs, brHead1]
        unfold sS
        simp only [List.cons_append, List.nil_append]
        rw [refsD_n (by simp)]
        simp only [refsL_c, refsL_0, refsD_s, refsD_b, refsD_0, e0, refsD_n (ds := [_]) (by simp), refsD_n (ds := [_, _]) (by simp), List.append_nil, List.nil_append]
      · have e : (St.br k a x y).refs = a.flat ++ a.flat := by show (if k = 0 then _ else _) = _; rw [if_neg h0]
        rw [e, List.map_append, ← rf_refs, brHeadX h0 h1]
        unfold sS
        simp only [List.cons_append, List.nil_append]
        rw [refsD_n (by simp)]
        simp only [refsL_c, refsL_0, refsD_s, refsD_b, refsD_0, e0, refsD_n (ds := [_, _]) (by simp), List.append_nil, List.nil_append]
/-! nodes -/
theorem nodes_t {ds : List D} : (D.tup ds).nodes = nodesL ds + 1 := by rw [D.nodes.eq_1]
theorem nodes_0 : D.none.nodes = 1 := by rw [D.nodes.eq_2]
theorem nodes_b {b} : (D.bool b).nodes = 1 := by rw [D.nodes.eq_3]
theorem nodes_i {b} : (D.int b).nodes = 1 := by rw [D.nodes.eq_4]
theorem nodes_s {b} : (D.str b).nodes = 1 := by rw [D.nodes.eq_5]
theorem nodes_y {b} : (D.bytes b).nodes = 1 := by rw [D.nodes.eq_6]
theorem nodesL_0 : nodesL [] = 0 := by rw [nodesL.eq_1]
theorem nodesL_c {d r} : nodesL (d :: r) = d.nodes + nodesL r := by rw [nodesL.eq_2]
theorem num_nodes (i : Int) : (numD i).nodes = 5 := by
  unfold numD sS
  simp only [nodes_t, nodesL_c, nodesL_0, nodes_s, nodes_i]
theorem rf_nodes (mk : Str) : ∀ r : Rf, (r.toD mk).nodes ≤ 30 * r.flat.length
  | .leaf k => by
    show (D.tup [.str (Str.ofString "ref"), .str (mk ++ letter k), .tup [], .tup [], .none]).nodes ≤ 30
    simp only [nodes_t, nodesL_c, nodesL_0, nodes_s, nodes_0]; lia
  | .node k s => by
    have ih := rf_nodes mk s
    show (D.tup [.str (Str.ofString "ref"), .str (mk ++ letter k), .tup [sS "G"], .tup [.tup [sS "+", s.toD mk, numD 2]], .tup [numD 1, .none]]).nodes ≤ 30 * (s.flat.length + 1)
    unfold sS
    simp only [nodes_t, nodesL_c, nodesL_0, nodes_s, nodes_0, num_nodes]; lia
theorem ok_nodes (mk : Str) {r : Rf} (h : r.ok) : (r.toD mk).nodes ≤ 120 := by
  have := rf_nodes mk r
  have := h.2; lia
theorem exch_nodes (mk : Str) {st : St} (h : st.okR) : (st.exch mk fun _ => .tup []).nodes ≤ 2000 := by
  cases st with
  | mv a b =>
    rw [St.okR.eq_1] at h
    have h1 := ok_nodes mk h.1; have h2 := ok_nodes mk h.2
    show (St.toD mk (.mv a b)).nodes ≤ 2000
    rw [St.toD.eq_1]
    unfold sS refB
    simp only [nodes_t, nodesL_c, nodesL_0, nodes_s, nodes_y]; lia
  | iff a b x y =>
    rw [St.okR.eq_2] at h
    have h1 := ok_nodes mk h.1; have h2 := ok_nodes mk h.2.1
    show (D.tup [sS "if", .tup [sS "not", .tup [sS "rel", sS "=", a.toD mk, b.toD mk]], .tup [], .tup []]).nodes ≤ 2000
    unfold sS
    simp only [nodes_t, nodesL_c, nodesL_0, nodes_s]; lia
  | ev a x y z =>
    rw [St.okR.eq_3] at h
    have h1 := ok_nodes mk h.1
    show (D.tup [sS "evaluate", .tup [.tup [sS "worth", a.toD mk]], .tup [.tup [.tup [.tup [.tup [sS "any"]]], .tup []], .tup [.tup [.tup [.tup [sS "is", .tup [sS "text", refB], .bool true]]], .tup []]], .tup []]).nodes ≤ 2000
    unfold sS refB
    simp only [nodes_t, nodesL_c, nodesL_0, nodes_s, nodes_y, nodes_b]; lia
  | pf a b c x =>
    rw [St.okR.eq_4] at h
    have h1 := ok_nodes mk h.1; have h2 := ok_nodes mk h.2.1; have h3 := ok_nodes mk h.2.2.1
    show (D.tup [sS "perform", .tup [sS "body", .tup []], .tup [sS "varying", .bool false, .tup [.tup [a.toD mk, numD 1, b.toD mk, .tup [sS "named", c.toD mk]]]]]).nodes ≤ 2000
    unfold sS
    simp only [nodes_t, nodesL_c, nodesL_0, nodes_s, nodes_b, num_nodes]; lia
  | br k a x y =>
    rw [St.okR.eq_5] at h
    have h1 := ok_nodes mk h.1
    show (D.tup (brHead k mk a ++ [.tup [.tup [sS "end", .tup []], .tup [sS "not end", .tup []]]])).nodes ≤ 2000
    by_cases h0 : k = 0
    · subst h0; rw [brHead0]; unfold sS
      simp only [List.cons_append, List.nil_append, nodes_t, nodesL_c, nodesL_0, nodes_s, nodes_b, nodes_0]; lia
    · by_cases h1 : k = 1
      · subst h1; rw [brHead1]; unfold sS
        simp only [List.cons_append, List.nil_append, nodes_t, nodesL_c, nodesL_0, nodes_s, nodes_b, nodes_0]; lia
      · rw [brHeadX h0 h1]; unfold sS
        simp only [List.cons_append, List.nil_append, nodes_t, nodesL_c, nodesL_0, nodes_s, nodes_b, nodes_0]; lia
/-! good -/
theorem good_n {ds : List D} (h : ds.length ≠ 5) (hg : goodL ds) : (D.tup ds).good := by rw [D.good.eq_1]; exact ⟨fun e => absurd e h, hg⟩
theorem good_r {x : Str} {r : List D} (hg : goodL r) : (D.tup (.str x :: r)).good := by rw [D.good.eq_1]; exact ⟨fun _ => ⟨_, _, rfl⟩, by rw [goodL.eq_2, D.good.eq_5]; exact ⟨trivial, hg⟩⟩
theorem good_c {d : D} {r : List D} (h : d.good) (hg : goodL r) : goodL (d :: r) := by rw [goodL.eq_2]; exact ⟨h, hg⟩
theorem good_e : goodL [] := by rw [goodL.eq_1]; trivial
theorem good_s {x : Str} : (D.str x).good := by rw [D.good.eq_5]; trivial
theorem good_i {x : Int} : (D.int x).good := by rw [D.good.eq_4]; trivial
theorem good_b {x : Bool} : (D.bool x).good := by rw [D.good.eq_3]; trivial
theorem good_0 : D.none.good := by rw [D.good.eq_2]; trivial
theorem good_y {x} : (D.bytes x).good := by rw [D.good.eq_6]; trivial
theorem num_good (i : Int) : (numD i).good := good_r (good_c (good_n (by simp) (good_c good_i (good_c good_i good_e))) good_e)
theorem rf_good (mk : Str) : ∀ r : Rf, (r.toD mk).good
  | .leaf k => good_r (good_c good_s (good_c (good_n (by simp) good_e) (good_c (good_n (by simp) good_e) (good_c good_0 good_e))))
  | .node k s => good_r (good_c good_s (good_c (good_r good_e) (good_c (good_n (by simp) (good_c (good_r (good_c (rf_good mk s) (good_c (num_good 2) good_e))) good_e)) (good_c (good_n (by simp) (good_c (num_good 1) (good_c good_0 good_e))) good_e))))
theorem exch_good (mk : Str) (st : St) : (st.exch mk fun _ => .tup []).good := by
  have e0 : (D.tup []).good := good_n (by simp) good_e
  cases st with
  | mv a b =>
    show (St.toD mk (.mv a b)).good
    rw [St.toD.eq_1]
    exact good_r (good_c (good_r (good_c good_y good_e)) (good_c (good_n (by simp) (good_c (rf_good mk a) (good_c (rf_good mk b) good_e))) good_e))
  | iff a b x y => exact good_r (good_c (good_r (good_c (good_r (good_c good_s (good_c (rf_good mk a) (good_c (rf_good mk b) good_e)))) good_e)) (good_c e0 (good_c e0 good_e)))
  | ev a x y z =>
    exact good_r (good_c (good_n (by simp) (good_c (good_r (good_c (rf_good mk a) good_e)) good_e)) (good_c (good_n (by simp) (good_c (good_n (by simp) (good_c (good_n (by simp) (good_c (good_n (by simp) (good_c (good_r good_e) good_e)) good_e)) (good_c e0 good_e)))
      (good_c (good_n (by simp) (good_c (good_n (by simp) (good_c (good_n (by simp) (good_c (good_r (good_c (good_r (good_c good_y good_e)) (good_c good_b good_e))) good_e)) good_e)) (good_c e0 good_e))) good_e))) (good_c e0 good_e)))
  | pf a b c x => exact good_r (good_c (good_r (good_c e0 good_e)) (good_c (good_r (good_c good_b (good_c (good_n (by simp) (good_c (good_n (by simp) (good_c (rf_good mk a) (good_c (num_good 1) (good_c (rf_good mk b) (good_c (good_r (good_c (rf_good mk c) good_e)) good_e))))) good_e)) good_e))) good_e))
  | br k a x y =>
    have et : (D.tup [.tup [sS "end", .tup []], .tup [sS "not end", .tup []]]).good := good_n (by simp) (good_c (good_r (good_c e0 good_e)) (good_c (good_r (good_c e0 good_e)) good_e))
    show (D.tup (brHead k mk a ++ [.tup [.tup [sS "end", .tup []], .tup [sS "not end", .tup []]]])).good
    by_cases h0 : k = 0
    · subst h0; rw [brHead0]
      exact good_r (good_c good_s (good_c good_b (good_c (rf_good mk a) (good_c good_0 (good_c et good_e)))))
    · by_cases h1 : k = 1
      · subst h1; rw [brHead1]
        exact good_r (good_c (rf_good mk a) (good_c (good_n (by simp) (good_c (good_r (good_c (rf_good mk a) good_e)) good_e)) (good_c et good_e)))
      · rw [brHeadX h0 h1]
        exact good_r (good_c (rf_good mk a) (good_c (good_r (good_c (rf_good mk a) good_e)) (good_c et good_e)))
/-! heights -/
theorem hgt_t {ds : List D} : (D.tup ds).hgt = hgts ds + 1 := by rw [D.hgt.eq_6]
theorem hgt_0 : D.none.hgt = 0 := by rw [D.hgt.eq_1]
theorem hgt_b {b} : (D.bool b).hgt = 0 := by rw [D.hgt.eq_2]
theorem hgt_i {b} : (D.int b).hgt = 0 := by rw [D.hgt.eq_3]
theorem hgt_s {b} : (D.str b).hgt = 0 := by rw [D.hgt.eq_4]
theorem hgt_y {b} : (D.bytes b).hgt = 0 := by rw [D.hgt.eq_5]
theorem hgts_0 : hgts [] = 0 := by rw [hgts.eq_1]
theorem hgts_c {d r} : hgts (d :: r) = max d.hgt (hgts r) := by rw [hgts.eq_2]
theorem ht_t {ds : List D} {K : Nat} (h : hgts ds ≤ K) : (D.tup ds).hgt ≤ K + 1 := by rw [hgt_t]; exact Nat.succ_le_succ h
theorem ht_0 {K : Nat} : hgts [] ≤ K := by rw [hgts_0]; exact Nat.zero_le _
theorem ht_c {d : D} {r : List D} {K : Nat} (h : d.hgt ≤ K) (hr : hgts r ≤ K) : hgts (d :: r) ≤ K := by rw [hgts_c]; exact Nat.max_le.mpr ⟨h, hr⟩
theorem ht_s {x : Str} {K : Nat} : (D.str x).hgt ≤ K := by rw [hgt_s]; exact Nat.zero_le _
theorem ht_i {x : Int} {K : Nat} : (D.int x).hgt ≤ K := by rw [hgt_i]; exact Nat.zero_le _
theorem ht_b {x : Bool} {K : Nat} : (D.bool x).hgt ≤ K := by rw [hgt_b]; exact Nat.zero_le _
theorem ht_n {K : Nat} : D.none.hgt ≤ K := by rw [hgt_0]; exact Nat.zero_le _
theorem ht_y {x} {K : Nat} : (D.bytes x).hgt ≤ K := by rw [hgt_y]; exact Nat.zero_le _
theorem num_ht (i : Int) {K : Nat} : (numD i).hgt ≤ K + 2 := ht_t (ht_c ht_s (ht_c (ht_t (ht_c ht_i (ht_c ht_i ht_0))) ht_0))
theorem flat_pos (s : Rf) : 1 ≤ s.flat.length := by cases s <;> exact Nat.succ_le_succ (Nat.zero_le _)
theorem le_a {x B k : Nat} (h : x ≤ B) : x ≤ B + k := Nat.le_trans h (Nat.le_add_right _ _)
theorem rf_hgt (mk : Str) : ∀ r : Rf, (r.toD mk).hgt ≤ 3 * r.flat.length
  | .leaf k => ht_t (K := 2) (ht_c ht_s (ht_c ht_s (ht_c (ht_t ht_0) (ht_c (ht_t ht_0) (ht_c ht_n ht_0)))))
  | .node k s => by
    have ih := rf_hgt mk s
    have h2 : 2 ≤ 3 * s.flat.length := Nat.le_trans (by decide) (Nat.mul_le_mul_left 3 (flat_pos s))
    show _ ≤ 3 * (s.flat.length + 1)
    rw [Nat.mul_succ]
    generalize 3 * s.flat.length = K at ih h2
    exact ht_t (K := K + 2) (ht_c ht_s (ht_c ht_s (ht_c (ht_t (ht_c ht_s ht_0)) (ht_c (ht_t (K := K + 1) (ht_c (ht_t (K := K) (ht_c ht_s (ht_c ih (ht_c (Nat.le_trans (num_ht 2 (K := 0)) h2) ht_0)))) ht_0)) (ht_c (ht_t (K := K + 1) (ht_c (Nat.le_trans (num_ht 1 (K := 0)) (le_a h2)) (ht_c ht_n ht_0))) ht_0)))))
theorem ok_hgt (mk : Str) {r : Rf} (h : r.ok) : (r.toD mk).hgt ≤ 12 := Nat.le_trans (rf_hgt mk r) (Nat.mul_le_mul_left 3 h.2)
theorem mx2 {a b : Nat} : 17 + 5 * (max a b + 1) = (17 + 5 * max a b + 4) + 1 := by lia
theorem mx1 {a : Nat} : 17 + 5 * (a + 1) = (17 + 5 * a + 4) + 1 := by lia
theorem mxl {x a b : Nat} (h : x ≤ 17 + 5 * a) : x ≤ 17 + 5 * max a b := Nat.le_trans h (Nat.add_le_add_left (Nat.mul_le_mul_left 5 (Nat.le_max_left _ _)) _)
theorem mxr {x a b : Nat} (h : x ≤ 17 + 5 * b) : x ≤ 17 + 5 * max a b := Nat.le_trans h (Nat.add_le_add_left (Nat.mul_le_mul_left 5 (Nat.le_max_right _ _)) _)
theorem mx17 {a : Nat} : 12 ≤ 17 + 5 * a := Nat.le_trans (by decide) (Nat.le_add_right _ _)
mutual
theorem st_hgt (mk : Str) : ∀ st : St, st.okR → (st.toD mk).hgt ≤ 17 + 5 * st.lev
  | .mv a b, h => by
    rw [St.okR.eq_1] at h
    rw [St.toD.eq_1, St.lev.eq_1]
    exact Nat.le_trans (ht_t (K := 13) (ht_c ht_s (ht_c (ht_t (K := 12) (ht_c ht_s (ht_c ht_y ht_0))) (ht_c (ht_t (K := 12) (ht_c (ok_hgt mk h.1) (ht_c (ok_hgt mk h.2) ht_0))) ht_0)))) (by decide)
  | .iff a b x y, h => by
    rw [St.okR.eq_2] at h
    have hx := mxl (b := St.lev.lev y) (sts_hgt mk x h.2.2.1.2); have hy := mxr (a := St.lev.lev x) (sts_hgt mk y h.2.2.2.2)
    rw [St.toD.eq_2, St.lev.eq_2, mx2]
    have h12 := mx17 (a := max (St.lev.lev x) (St.lev.lev y))
    generalize 17 + 5 * max (St.lev.lev x) (St.lev.lev y) = B at *
    have r := fun {r : Rf} (h : r.ok) => Nat.le_trans (ok_hgt mk h) h12
    exact ht_t (ht_c ht_s (ht_c (ht_t (K := B + 3) (ht_c ht_s (ht_c (ht_t (K := B + 2) (ht_c ht_s (ht_c ht_s (ht_c (le_a (r h.1)) (ht_c (le_a (r h.2.1)) ht_0))))) ht_0))) (ht_c (ht_t (K := B + 3) (le_a hx)) (ht_c (ht_t (K := B + 3) (le_a hy)) ht_0))))
  | .ev a x y z, h => by
    rw [St.okR.eq_3] at h
    have hx := mxl (b := max (St.lev.lev y) (St.lev.lev z)) (sts_hgt mk x h.2.1.2); have hy := mxr (a := St.lev.lev x) (mxl (b := St.lev.lev z) (sts_hgt mk y h.2.2.1.2)); have hz := mxr (a := St.lev.lev x) (mxr (a := St.lev.lev y) (sts_hgt mk z h.2.2.2.2))
    rw [St.toD.eq_3, St.lev.eq_3, mx2]
    have h12 := mx17 (a := max (St.lev.lev x) (max (St.lev.lev y) (St.lev.lev z)))
    generalize 17 + 5 * max (St.lev.lev x) (max (St.lev.lev y) (St.lev.lev z)) = B at *
    have r := fun {r : Rf} (h : r.ok) => Nat.le_trans (ok_hgt mk h) h12
    exact ht_t (ht_c ht_s (ht_c (ht_t (K := B + 3) (ht_c (ht_t (K := B + 2) (ht_c ht_s (ht_c (le_a (r h.1)) ht_0))) ht_0))
      (ht_c (ht_t (K := B + 3) (ht_c (ht_t (K := B + 2) (ht_c (le_a (k := 2) (Nat.le_trans (ht_t (K := 3) (ht_c (ht_t (K := 2) (ht_c (ht_t (K := 1) (ht_c ht_s ht_0)) ht_0)) ht_0)) (Nat.le_trans (by decide) h12))) (ht_c (le_a (k := 1) (ht_t hx)) ht_0))) (ht_c (ht_t (K := B + 2) (ht_c (le_a (k := 2) (Nat.le_trans (ht_t (K := 4) (ht_c (ht_t (K := 3) (ht_c (ht_t (K := 2) (ht_c ht_s (ht_c (ht_t (K := 1) (ht_c ht_s (ht_c ht_y ht_0))) (ht_c ht_b ht_0)))) ht_0)) ht_0)) (Nat.le_trans (by decide) h12))) (ht_c (le_a (k := 1) (ht_t hy)) ht_0))) ht_0))) (ht_c (ht_t (K := B + 3) (le_a hz)) ht_0))))
  | .pf a b c x, h => by
    rw [St.okR.eq_4] at h
    have hx := sts_hgt mk x h.2.2.2.2
    rw [St.toD.eq_4, St.lev.eq_4, mx1]
    have h12 := mx17 (a := St.lev.lev x)
    generalize 17 + 5 * St.lev.lev x = B at *
    have r := fun {r : Rf} (h : r.ok) => Nat.le_trans (ok_hgt mk h) h12
    exact ht_t (ht_c ht_s (ht_c (ht_t (K := B + 3) (ht_c ht_s (ht_c (ht_t (K := B + 2) (le_a hx)) ht_0))) (ht_c (ht_t (K := B + 3) (ht_c ht_s (ht_c ht_b (ht_c (ht_t (K := B + 2) (ht_c (ht_t (K := B + 1) (ht_c (le_a (r h.1)) (ht_c (Nat.le_trans (num_ht 1 (K := 0)) (le_a (Nat.le_trans (by decide) h12))) (ht_c (le_a (r h.2.1)) (ht_c (ht_t (K := B) (ht_c ht_s (ht_c (r h.2.2.1) ht_0))) ht_0))))) ht_0)) ht_0)))) ht_0)))
  | .br k a x y, h => by
    rw [St.okR.eq_5] at h
    have hx := mxl (b := St.lev.lev y) (sts_hgt mk x h.2.1.2); have hy := mxr (a := St.lev.lev x) (sts_hgt mk y h.2.2.2)
    rw [St.toD.eq_5, St.lev.eq_5, mx2]
    have h12 := mx17 (a := max (St.lev.lev x) (St.lev.lev y))
    generalize 17 + 5 * max (St.lev.lev x) (St.lev.lev y) = B at *
    have ra : (a.toD mk).hgt ≤ B + 2 := le_a (Nat.le_trans (ok_hgt mk h.1) h12)
    have ra4 : (a.toD mk).hgt ≤ B + 4 := le_a (Nat.le_trans (ok_hgt mk h.1) h12)
    have et : (D.tup [.tup [sS "end", .tup (toDs mk x)], .tup [sS "not end", .tup (toDs mk y)]]).hgt ≤ B + 4 := ht_t (K := B + 3) (ht_c (ht_t (K := B + 2) (ht_c ht_s (ht_c (le_a (k := 1) (ht_t hx)) ht_0))) (ht_c (ht_t (K := B + 2) (ht_c ht_s (ht_c (le_a (k := 1) (ht_t hy)) ht_0))) ht_0))
    by_cases h0 : k = 0
    · subst h0; rw [brHead0]
      exact ht_t (ht_c ht_s (ht_c ht_s (ht_c ht_b (ht_c ra4 (ht_c ht_n (ht_c et ht_0))))))
    · by_cases h1 : k = 1
      · subst h1; rw [brHead1]
        exact ht_t (ht_c ht_s (ht_c ra4 (ht_c (ht_t (K := B + 3) (ht_c (ht_t (K := B + 2) (ht_c ht_s (ht_c ra ht_0))) ht_0)) (ht_c et ht_0))))
      · rw [brHeadX h0 h1]
        exact ht_t (ht_c ht_s (ht_c ra4 (ht_c (ht_t (K := B + 3) (ht_c ht_s (ht_c (Nat.le_succ_of_le ra) ht_0))) (ht_c et ht_0))))
theorem sts_hgt (mk : Str) : ∀ l : List St, okL l → hgts (toDs mk l) ≤ 17 + 5 * St.lev.lev l
  | [], _ => by rw [toDs.eq_1]; exact ht_0
  | s :: r, h => by
    rw [okL.eq_2] at h
    rw [toDs.eq_2, St.lev.lev.eq_2]
    exact ht_c (mxl (st_hgt mk s h.1)) (mxr (sts_hgt mk r h.2))
end
theorem rf_tup (mk : Str) (r : Rf) : ∃ ds, r.toD mk = .tup ds := by cases r <;> exact ⟨_, rfl⟩
theorem stD_tup (mk : Str) (s : St) : ∃ ds, s.toD mk = .tup ds := by
  cases s with
  | mv a b => exact ⟨_, by rw [St.toD.eq_1]⟩
  | iff a b x y => exact ⟨_, by rw [St.toD.eq_2]⟩
  | ev a x y z => exact ⟨_, by rw [St.toD.eq_3]⟩
  | pf a b c x => exact ⟨_, by rw [St.toD.eq_4]⟩
  | br k a x y => exact ⟨_, by rw [St.toD.eq_5]⟩
/-! the exchange with the bodies themselves -/
theorem exch_id (mk : Str) (s : St) : (s.exch mk fun b => .tup (b.map (St.toD mk))) = s.toD mk := by
  cases s with
  | mv a b => rfl
  | iff a b x y => rw [St.toD.eq_2, toDs_map, toDs_map]; rfl
  | ev a x y z => rw [St.toD.eq_3, toDs_map, toDs_map, toDs_map]; rfl
  | pf a b c x => rw [St.toD.eq_4, toDs_map]; rfl
  | br k a x y => rw [St.toD.eq_5, toDs_map, toDs_map]; rfl
/-! bare -/
theorem bare_h {ds : List D} (h : headMove ds = false) : (D.tup ds).bare = .tup (bares ds) := by rw [D.bare.eq_1, h]; rfl
theorem bares_0 : bares [] = [] := by rw [bares.eq_1]
theorem bares_c {d r} : bares (d :: r) = d.bare :: bares r := by rw [bares.eq_2]
theorem bare_str {x} : (D.str x).bare = .str x := by rw [D.bare.eq_5]
theorem bare_int {x} : (D.int x).bare = .int x := by rw [D.bare.eq_4]
theorem bare_bool {x} : (D.bool x).bare = .bool x := by rw [D.bare.eq_3]
theorem bare_none : D.none.bare = .none := by rw [D.bare.eq_2]
theorem bare_bytes {x} : (D.bytes x).bare = .bytes x := by rw [D.bare.eq_6]
theorem bare_s {x : Str} {r : List D} (h : (x == Str.ofString "move") = false) : (D.tup (.str x :: r)).bare = .tup (.str x :: bares r) := by rw [bare_h (show headMove (.str x :: r) = false from h), bares_c, bare_str]
theorem bare_t {ds r : List D} : (D.tup (.tup ds :: r)).bare = .tup ((D.tup ds).bare :: bares r) := by rw [bare_h (show headMove (.tup ds :: r) = false from rfl), bares_c]
theorem bare_i {i : Int} {r : List D} : (D.tup (.int i :: r)).bare = .tup (.int i :: bares r) := by rw [bare_h (show headMove (.int i :: r) = false from rfl), bares_c, bare_int]
theorem bare_e : (D.tup []).bare = .tup [] := by rw [bare_h (show headMove [] = false from rfl), bares_0]
theorem num_bare (i : Int) : (numD i).bare = numD i := by
  unfold numD sS
  rw [bare_s (by decide), bares_c, bares_0, bare_i, bares_c, bares_0, bare_int]
theorem rf_bare (mk : Str) : ∀ r : Rf, (r.toD mk).bare = r.toD mk
  | .leaf k => by
    show (D.tup [.str (Str.ofString "ref"), .str (mk ++ letter k), .tup [], .tup [], .none]).bare = .tup [.str (Str.ofString "ref"), .str (mk ++ letter k), .tup [], .tup [], .none]
    rw [bare_s (by decide)]
    simp only [bares_c, bares_0, bare_e, bare_none, bare_str]
  | .node k s => by
    show (D.tup [.str (Str.ofString "ref"), .str (mk ++ letter k), .tup [sS "G"], .tup [.tup [sS "+", s.toD mk, numD 2]], .tup [numD 1, .none]]).bare = .tup [.str (Str.ofString "ref"), .str (mk ++ letter k), .tup [sS "G"], .tup [.tup [sS "+", s.toD mk, numD 2]], .tup [numD 1, .none]]
    rw [bare_s (by decide)]
    have e1 : (D.tup [numD 1, .none]).bare = .tup [numD 1, .none] := by
      have := num_bare 1
      unfold numD at this ⊢
      rw [bare_t, bares_c, bares_0, bare_none, this]
    unfold sS
    simp only [bares_c, bares_0, bare_none, bare_str, e1, bare_t, bare_s (x := Str.ofString "G") (by decide), bare_s (x := Str.ofString "+") (by decide), rf_bare mk s, num_bare]
theorem hm_rf {mk : Str} {r : Rf} {l : List D} : headMove (r.toD mk :: l) = false := by
  obtain ⟨ds, e⟩ := rf_tup mk r
  rw [e]; rfl
theorem hm_st {mk : Str} {s : St} {l : List D} : headMove (s.toD mk :: l) = false := by
  obtain ⟨ds, e⟩ := stD_tup mk s
  rw [e]; rfl
noncomputable abbrev bareD (mk : Str) (s : St) : D := (s.toD mk).bare
theorem bare_body (mk : Str) (x : List St) : (D.tup (toDs mk x)).bare = .tup (x.map (bareD mk)) := by
  have hh : headMove (toDs mk x) = false := by
    cases x with
    | nil => rw [toDs.eq_1]; rfl
    | cons s r => rw [toDs.eq_2]; exact hm_st
  rw [bare_h hh, bares_map, toDs_map, List.map_map]; rfl
theorem bare_r {mk : Str} {r : Rf} {l : List D} : (D.tup (r.toD mk :: l)).bare = .tup (r.toD mk :: bares l) := by rw [bare_h hm_rf, bares_c, rf_bare]
theorem mv_bare (mk : Str) (a b : Rf) : bareD mk (.mv a b) = .tup [.str (Str.ofString "continue")] := by
  show ((St.mv a b).toD mk).bare = _
  rw [St.toD.eq_1, D.bare.eq_1, if_pos (show headMove (sS "move" :: _) = true from by show (Str.ofString "move" == Str.ofString "move") = true; exact beq_self_eq_true _)]
theorem bare_exch (mk : Str) (s : St) (h : ∀ a b, s ≠ .mv a b) : bareD mk s = s.exch mk fun b => .tup (b.map (bareD mk)) := by
  cases s with
  | mv a b => exact absurd rfl (h a b)
  | iff a b x y =>
    show ((St.iff a b x y).toD mk).bare = D.tup [sS "if", .tup [sS "not", .tup [sS "rel", sS "=", a.toD mk, b.toD mk]], .tup (x.map (bareD mk)), .tup (y.map (bareD mk))]
    rw [St.toD.eq_2]
    unfold sS
    simp only [bares_c, bares_0, bare_str, bare_s (x := Str.ofString "if") (by decide), bare_s (x := Str.ofString "not") (by decide), bare_s (x := Str.ofString "rel") (by decide), rf_bare, bare_body]
  | ev a x y z =>
    show ((St.ev a x y z).toD mk).bare = D.tup [sS "evaluate", .tup [.tup [sS "worth", a.toD mk]], .tup [.tup [.tup [.tup [.tup [sS "any"]]], .tup (x.map (bareD mk))], .tup [.tup [.tup [.tup [sS "is", .tup [sS "text", refB], .bool true]]], .tup (y.map (bareD mk))]], .tup (z.map (bareD mk))]
    rw [St.toD.eq_3]
    unfold sS refB
    simp only [bares_c, bares_0, bare_str, bare_bytes, bare_bool, bare_t, bare_s (x := Str.ofString "evaluate") (by decide), bare_s (x := Str.ofString "worth") (by decide), bare_s (x := Str.ofString "any") (by decide), bare_s (x := Str.ofString "is") (by decide), bare_s (x := Str.ofString "text") (by decide), rf_bare, bare_body]
  | pf a b c x =>
    show ((St.pf a b c x).toD mk).bare = D.tup [sS "perform", .tup [sS "body", .tup (x.map (bareD mk))], .tup [sS "varying", .bool false, .tup [.tup [a.toD mk, numD 1, b.toD mk, .tup [sS "named", c.toD mk]]]]]
    rw [St.toD.eq_4]
    unfold sS
    simp only [bares_c, bares_0, bare_str, bare_bool, bare_t, bare_r, num_bare, bare_s (x := Str.ofString "perform") (by decide), bare_s (x := Str.ofString "body") (by decide), bare_s (x := Str.ofString "varying") (by decide), bare_s (x := Str.ofString "named") (by decide), rf_bare, bare_body]
  | br k a x y =>
    have et : (D.tup [.tup [sS "end", .tup (toDs mk x)], .tup [sS "not end", .tup (toDs mk y)]]).bare = .tup [.tup [sS "end", .tup (x.map (bareD mk))], .tup [sS "not end", .tup (y.map (bareD mk))]] := by
      unfold sS
      simp only [bares_c, bares_0, bare_str, bare_t, bare_s (x := Str.ofString "end") (by decide), bare_s (x := Str.ofString "not end") (by decide), bare_body]
    show ((St.br k a x y).toD mk).bare = D.tup (brHead k mk a ++ [.tup [.tup [sS "end", .tup (x.map (bareD mk))], .tup [sS "not end", .tup (y.map (bareD mk))]]])
    rw [St.toD.eq_5]
    by_cases h0 : k = 0
    · subst h0; rw [brHead0]
      simp only [List.cons_append, List.nil_append]
      unfold sS at et ⊢
      rw [bare_s (by decide)]
      simp only [bares_c, bares_0, bare_str, bare_bool, bare_none, rf_bare, et]
    · by_cases h1 : k = 1
      · subst h1; rw [brHead1]
        simp only [List.cons_append, List.nil_append]
        unfold sS at et ⊢
        rw [bare_s (by decide), bares_c, bares_c, bares_c, bares_0, et, rf_bare, bare_t, bares_0, bare_s (by decide), bares_c, bares_0, rf_bare]
      · rw [brHeadX h0 h1]
        simp only [List.cons_append, List.nil_append]
        unfold sS at et ⊢
        rw [bare_s (by decide), bares_c, bares_c, bares_c, bares_0, et, rf_bare, bare_s (by decide), bares_c, bares_0, rf_bare]
/-! bareOk -/
theorem bok_t {ds : List D} (h : ∀ b r, ds ≠ .bytes b :: r) (hl : ds.length ≤ 1000) (hg : bareOks ds) : (D.tup ds).bareOk := by rw [D.bareOk.eq_1]; exact ⟨h, hl, hg⟩
theorem bok_c {d : D} {r : List D} (h : d.bareOk) (hg : bareOks r) : bareOks (d :: r) := by rw [bareOks.eq_2]; exact ⟨h, hg⟩
theorem bok_e : bareOks [] := by rw [bareOks.eq_1]; trivial
theorem bok_s {x : Str} : (D.str x).bareOk := by rw [D.bareOk.eq_5]; trivial
theorem bok_i {x : Int} : (D.int x).bareOk := by rw [D.bareOk.eq_4]; trivial
theorem bok_b {x : Bool} : (D.bool x).bareOk := by rw [D.bareOk.eq_3]; trivial
theorem bok_0 : D.none.bareOk := by rw [D.bareOk.eq_2]; trivial
theorem bok_y {x} : (D.bytes x).bareOk := by rw [D.bareOk.eq_6]; trivial
theorem bks {x : Str} {r : List D} (hl : r.length ≤ 10) (hg : bareOks r) : (D.tup (.str x :: r)).bareOk := bok_t (fun b r e => by injection e with e _; cases e) (by rw [List.length_cons]; lia) (bok_c bok_s hg)
theorem bkt {d : D} {ds r : List D} (hd : d = .tup ds) (h : d.bareOk) (hl : r.length ≤ 10) (hg : bareOks r) : (D.tup (d :: r)).bareOk := bok_t (fun b r e => by rw [hd] at e; injection e with e _; cases e) (by rw [List.length_cons]; lia) (bok_c h hg)
theorem bke : (D.tup []).bareOk := bok_t (fun b r e => nomatch e) (Nat.zero_le _) bok_e
theorem le10 {α : Type} {l : List α} (h : Nat.ble l.length 10 = true := by rfl) : l.length ≤ 10 := Nat.le_of_ble_eq_true h
theorem num_bok (i : Int) : (numD i).bareOk := bks (by simp) (bok_c (bok_t (fun b r e => by injection e with e _; cases e) (by simp) (bok_c bok_i (bok_c bok_i bok_e))) bok_e)
theorem rf_bok (mk : Str) : ∀ r : Rf, (r.toD mk).bareOk
  | .leaf k => bks (by exact le10) (bok_c bok_s (bok_c bke (bok_c bke (bok_c bok_0 bok_e))))
  | .node k s => bks (by exact le10) (bok_c bok_s (bok_c (bks (by exact le10) bok_e) (bok_c (bkt rfl (bks (by exact le10) (bok_c (rf_bok mk s) (bok_c (num_bok 2) bok_e))) (by exact le10) bok_e) (bok_c (bkt rfl (num_bok 1) (by exact le10) (bok_c bok_0 bok_e)) bok_e))))
theorem bkr {mk : Str} {a : Rf} {r : List D} (hl : r.length ≤ 10) (hg : bareOks r) : (D.tup (a.toD mk :: r)).bareOk := by
  obtain ⟨ds, e⟩ := rf_tup mk a
  exact bkt e (rf_bok mk a) hl hg
mutual
theorem st_bok (mk : Str) : ∀ s : St, s.okR → (s.toD mk).bareOk
  | .mv a b, h => by rw [St.toD.eq_1]; exact bks (by exact le10) (bok_c (bks (by exact le10) (bok_c bok_y bok_e)) (bok_c (bkr (by exact le10) (bok_c (rf_bok mk b) bok_e)) bok_e))
  | .iff a b x y, h => by
    rw [St.okR.eq_2] at h
    rw [St.toD.eq_2]
    exact bks (by exact le10) (bok_c (bks (by exact le10) (bok_c (bks (by exact le10) (bok_c bok_s (bok_c (rf_bok mk a) (bok_c (rf_bok mk b) bok_e)))) bok_e)) (bok_c (sts_bok mk x h.2.2.1.1 h.2.2.1.2) (bok_c (sts_bok mk y h.2.2.2.1 h.2.2.2.2) bok_e)))
  | .ev a x y z, h => by
    rw [St.okR.eq_3] at h
    rw [St.toD.eq_3]
    exact bks (by exact le10) (bok_c (bkt rfl (bks (by exact le10) (bok_c (rf_bok mk a) bok_e)) (by exact le10) bok_e) (bok_c (bkt rfl (bkt rfl (bkt rfl (bkt rfl (bks (by exact le10) bok_e) (by exact le10) bok_e) (by exact le10) bok_e) (by exact le10) (bok_c (sts_bok mk x h.2.1.1 h.2.1.2) bok_e)) (by exact le10)
      (bok_c (bkt rfl (bkt rfl (bkt rfl (bks (by exact le10) (bok_c (bks (by exact le10) (bok_c bok_y bok_e)) (bok_c bok_b bok_e))) (by exact le10) bok_e) (by exact le10) bok_e) (by exact le10) (bok_c (sts_bok mk y h.2.2.1.1 h.2.2.1.2) bok_e)) bok_e)) (bok_c (sts_bok mk z h.2.2.2.1 h.2.2.2.2) bok_e)))
  | .pf a b c x, h => by
    rw [St.okR.eq_4] at h
    rw [St.toD.eq_4]
    exact bks (by exact le10) (bok_c (bks (by exact le10) (bok_c (sts_bok mk x h.2.2.2.1 h.2.2.2.2) bok_e)) (bok_c (bks (by exact le10) (bok_c bok_b (bok_c (bkt rfl (bkr (by exact le10) (bok_c (num_bok 1) (bok_c (rf_bok mk b) (bok_c (bks (by exact le10) (bok_c (rf_bok mk c) bok_e)) bok_e)))) (by exact le10) bok_e) bok_e))) bok_e))
  | .br k a x y, h => by
    rw [St.okR.eq_5] at h
    rw [St.toD.eq_5]
    have et : (D.tup [.tup [sS "end", .tup (toDs mk x)], .tup [sS "not end", .tup (toDs mk y)]]).bareOk := bkt rfl (bks (by exact le10) (bok_c (sts_bok mk x h.2.1.1 h.2.1.2) bok_e)) (by exact le10) (bok_c (bks (by exact le10) (bok_c (sts_bok mk y h.2.2.1 h.2.2.2) bok_e)) bok_e)
    by_cases h0 : k = 0
    · subst h0; rw [brHead0]
      exact bks (by exact le10) (bok_c bok_s (bok_c bok_b (bok_c (rf_bok mk a) (bok_c bok_0 (bok_c et bok_e)))))
    · by_cases h1 : k = 1
      · subst h1; rw [brHead1]
        exact bks (by exact le10) (bok_c (rf_bok mk a) (bok_c (bkt rfl (bks (by exact le10) (bok_c (rf_bok mk a) bok_e)) (by exact le10) bok_e) (bok_c et bok_e)))
      · rw [brHeadX h0 h1]
        exact bks (by exact le10) (bok_c (rf_bok mk a) (bok_c (bks (by exact le10) (bok_c (rf_bok mk a) bok_e)) (bok_c et bok_e)))
theorem sts_bok (mk : Str) : ∀ l : List St, l.length ≤ 2 → okL l → (D.tup (toDs mk l)).bareOk
  | [], _, _ => by rw [toDs.eq_1]; exact bke
  | s :: r, hl, h => by
    rw [okL.eq_2] at h
    rw [toDs.eq_2]
    obtain ⟨ds, e⟩ := stD_tup mk s
    refine bkt e (st_bok mk s h.1) (by rw [toDs_len]; simp at hl; lia) (stsL_bok mk r h.2)
theorem stsL_bok (mk : Str) : ∀ l : List St, okL l → bareOks (toDs mk l)
  | [], _ => by rw [toDs.eq_1]; exact bok_e
  | s :: r, h => by
    rw [okL.eq_2] at h
    rw [toDs.eq_2]
    exact bok_c (st_bok mk s h.1) (stsL_bok mk r h.2)
end
/-! renaming -/
theorem rens_0 : rens [] = [] := by rw [rens.eq_1]
theorem rens_c {d r} : rens (d :: r) = d.ren :: rens r := by rw [rens.eq_2]
theorem ren_str {x} : (D.str x).ren = .str x := by rw [D.ren.eq_5]
theorem ren_int {x} : (D.int x).ren = .int x := by rw [D.ren.eq_4]
theorem ren_bool {x} : (D.bool x).ren = .bool x := by rw [D.ren.eq_3]
theorem ren_none : D.none.ren = .none := by rw [D.ren.eq_2]
theorem ren_bytes {x} : (D.bytes x).ren = .bytes x := by rw [D.ren.eq_6]
theorem ren_n {ds : List D} (h : ds.length ≠ 5) : (D.tup ds).ren = .tup (rens ds) := by
  rw [D.ren.eq_1, renT_no (isRef_n (by rw [rens_map, List.length_map]; exact h))]
theorem num_ren (i : Int) : (numD i).ren = numD i := by
  unfold numD sS
  simp only [ren_n (ds := [_, _]) (by simp), rens_c, rens_0, ren_str, ren_int]
theorem ren_ref {who : Str} {a b c : D} : (D.tup [.str (Str.ofString "ref"), .str who, a, b, c]).ren = .tup [.str (Str.ofString "ref"), .str (yName who), a.ren, b.ren, c.ren] := by
  rw [D.ren.eq_1]
  simp only [rens_c, rens_0, ren_str]
  exact if_pos (e := D.tup [.str (Str.ofString "ref"), .str who, a.ren, b.ren, c.ren]) (beq_self_eq_true (Str.ofString "ref"))
theorem who_ok {k : Int} (h : 0 ≤ k ∧ k < 3) : Str.ofString "X" ++ letter k ∈ XS ∧ yName (Str.ofString "X" ++ letter k) = Str.ofString "Y" ++ letter k := by
  have : k = 0 ∨ k = 1 ∨ k = 2 := by lia
  rcases this with rfl | rfl | rfl <;> decide
noncomputable abbrev mX : Str := Str.ofString "X"
noncomputable abbrev mY : Str := Str.ofString "Y"
theorem rf_ren : ∀ r : Rf, r.fine → (r.toD mX).ren = r.toD mY
  | .leaf k, h => by
    show (D.tup [.str (Str.ofString "ref"), .str (mX ++ letter k), .tup [], .tup [], .none]).ren = .tup [.str (Str.ofString "ref"), .str (mY ++ letter k), .tup [], .tup [], .none]
    rw [ren_ref, (who_ok h).2]
    simp only [ren_n (ds := []) (by simp), rens_0, ren_none]
  | .node k s, h => by
    show (D.tup [.str (Str.ofString "ref"), .str (mX ++ letter k), .tup [sS "G"], .tup [.tup [sS "+", s.toD mX, numD 2]], .tup [numD 1, .none]]).ren = .tup [.str (Str.ofString "ref"), .str (mY ++ letter k), .tup [sS "G"], .tup [.tup [sS "+", s.toD mY, numD 2]], .tup [numD 1, .none]]
    rw [ren_ref, (who_ok h.1).2]
    unfold sS
    simp only [ren_n (ds := [_]) (by simp), ren_n (ds := [_, _]) (by simp), ren_n (ds := [_, _, _]) (by simp), rens_c, rens_0, ren_none, ren_str, num_ren, rf_ren s h.2]
mutual
theorem st_ren : ∀ s : St, s.okR → (s.toD mX).ren = s.toD mY
  | .mv a b, h => by
    rw [St.okR.eq_1] at h
    rw [St.toD.eq_1, St.toD.eq_1]
    unfold sS refB
    simp only [ren_n (ds := [_, _]) (by simp), ren_n (ds := [_, _, _]) (by simp), rens_c, rens_0, ren_str, ren_bytes, rf_ren a h.1.1, rf_ren b h.2.1]
  | .iff a b x y, h => by
    rw [St.okR.eq_2] at h
    rw [St.toD.eq_2, St.toD.eq_2]
    unfold sS
    simp only [ren_n (ds := [_, _]) (by simp), ren_n (ds := [_, _, _, _]) (by simp), rens_c, rens_0, ren_str, rf_ren a h.1.1, rf_ren b h.2.1.1, sts_ren x h.2.2.1.1 h.2.2.1.2, sts_ren y h.2.2.2.1 h.2.2.2.2]
  | .ev a x y z, h => by
    rw [St.okR.eq_3] at h
    rw [St.toD.eq_3, St.toD.eq_3]
    unfold sS refB
    simp only [ren_n (ds := [_]) (by simp), ren_n (ds := [_, _]) (by simp), ren_n (ds := [_, _, _]) (by simp), ren_n (ds := [_, _, _, _]) (by simp), rens_c, rens_0, ren_str, ren_bytes, ren_bool, rf_ren a h.1.1, sts_ren x h.2.1.1 h.2.1.2, sts_ren y h.2.2.1.1 h.2.2.1.2, sts_ren z h.2.2.2.1 h.2.2.2.2]
  | .pf a b c x, h => by
    rw [St.okR.eq_4] at h
    rw [St.toD.eq_4, St.toD.eq_4]
    unfold sS
    simp only [ren_n (ds := [_]) (by simp), ren_n (ds := [_, _]) (by simp), ren_n (ds := [_, _, _]) (by simp), ren_n (ds := [_, _, _, _]) (by simp), rens_c, rens_0, ren_str, ren_bool, num_ren, rf_ren a h.1.1, rf_ren b h.2.1.1, rf_ren c h.2.2.1.1, sts_ren x h.2.2.2.1 h.2.2.2.2]
  | .br k a x y, h => by
    rw [St.okR.eq_5] at h
    rw [St.toD.eq_5, St.toD.eq_5]
    have et : (D.tup [.tup [sS "end", .tup (toDs mX x)], .tup [sS "not end", .tup (toDs mX y)]]).ren = .tup [.tup [sS "end", .tup (toDs mY x)], .tup [sS "not end", .tup (toDs mY y)]] := by
      unfold sS
      simp only [ren_n (ds := [_, _]) (by simp), rens_c, rens_0, ren_str, sts_ren x h.2.1.1 h.2.1.2, sts_ren y h.2.2.1 h.2.2.2]
    by_cases h0 : k = 0
    · subst h0; rw [brHead0, brHead0]
      simp only [List.cons_append, List.nil_append]
      unfold sS at et ⊢
      rw [ren_n (by simp)]
      simp only [rens_c, rens_0, ren_str, ren_bool, ren_none, rf_ren a h.1.1, et]
    · by_cases h1 : k = 1
      · subst h1; rw [brHead1, brHead1]
        simp only [List.cons_append, List.nil_append]
        unfold sS at et ⊢
        rw [ren_n (by simp), rens_c, rens_c, rens_c, rens_c, rens_0, et]
        simp only [ren_n (ds := [_]) (by simp), ren_n (ds := [.str _, Rf.toD mX a]) (by simp), rens_c, rens_0, ren_str, rf_ren a h.1.1]
      · rw [brHeadX h0 h1, brHeadX h0 h1]
        simp only [List.cons_append, List.nil_append]
        unfold sS at et ⊢
        rw [ren_n (by simp), rens_c, rens_c, rens_c, rens_c, rens_0, et]
        simp only [ren_n (ds := [.str _, Rf.toD mX a]) (by simp), rens_c, rens_0, ren_str, rf_ren a h.1.1]
theorem sts_ren : ∀ l : List St, l.length ≤ 2 → okL l → (D.tup (toDs mX l)).ren = .tup (toDs mY l)
  | l, hl, h => by rw [ren_n (by rw [toDs_len]; lia), stsL_ren l h]
theorem stsL_ren : ∀ l : List St, okL l → rens (toDs mX l) = toDs mY l
  | [], _ => by rw [toDs.eq_1, toDs.eq_1, rens_0]
  | s :: r, h => by
    rw [okL.eq_2] at h
    rw [toDs.eq_2, toDs.eq_2, rens_c, st_ren s h.1, stsL_ren r h.2]
end
/-! renOk -/
theorem rok_n {ds : List D} (h : ds.length ≠ 5) (hl : ds.length ≤ 10) (hg : renOks ds) : (D.tup ds).renOk := by rw [D.renOk.eq_1]; exact ⟨fun e => absurd e h, by lia, hg⟩
theorem rok_c {d : D} {r : List D} (h : d.renOk) (hg : renOks r) : renOks (d :: r) := by rw [renOks.eq_2]; exact ⟨h, hg⟩
theorem rok_e : renOks [] := by rw [renOks.eq_1]; trivial
theorem rok_s {x : Str} : (D.str x).renOk := by rw [D.renOk.eq_5]; trivial
theorem rok_i {x : Int} : (D.int x).renOk := by rw [D.renOk.eq_4]; trivial
theorem rok_b {x : Bool} : (D.bool x).renOk := by rw [D.renOk.eq_3]; trivial
theorem rok_0 : D.none.renOk := by rw [D.renOk.eq_2]; trivial
theorem rok_y {x} : (D.bytes x).renOk := by rw [D.renOk.eq_6]; trivial
theorem rok_r {who : Str} {a b c : D} (hw : who ∈ XS) (ha : a.renOk) (hb : b.renOk) (hc : c.renOk) : (D.tup [.str (Str.ofString "ref"), .str who, a, b, c]).renOk := by
  rw [D.renOk.eq_1]
  exact ⟨fun _ => ⟨who, a, b, c, rfl, hw⟩, by simp, rok_c rok_s (rok_c rok_s (rok_c ha (rok_c hb (rok_c hc rok_e))))⟩
theorem num_rok (i : Int) : (numD i).renOk := rok_n (by simp) (by simp) (rok_c rok_s (rok_c (rok_n (by simp) (by simp) (rok_c rok_i (rok_c rok_i rok_e))) rok_e))
theorem rf_rok : ∀ r : Rf, r.fine → (r.toD mX).renOk
  | .leaf k, h => rok_r (who_ok h).1 (rok_n (by simp) (by simp) rok_e) (rok_n (by simp) (by simp) rok_e) rok_0
  | .node k s, h => rok_r (who_ok h.1).1 (rok_n (by simp) (by simp) (rok_c rok_s rok_e)) (rok_n (by simp) (by simp) (rok_c (rok_n (by simp) (by simp) (rok_c rok_s (rok_c (rf_rok s h.2) (rok_c (num_rok 2) rok_e)))) rok_e)) (rok_n (by simp) (by simp) (rok_c (num_rok 1) (rok_c rok_0 rok_e)))
mutual
theorem st_rok : ∀ s : St, s.okR → (s.toD mX).renOk
  | .mv a b, h => by
    rw [St.okR.eq_1] at h
    rw [St.toD.eq_1]
    exact rok_n (by simp) (by simp) (rok_c rok_s (rok_c (rok_n (by simp) (by simp) (rok_c rok_s (rok_c rok_y rok_e))) (rok_c (rok_n (by simp) (by simp) (rok_c (rf_rok a h.1.1) (rok_c (rf_rok b h.2.1) rok_e))) rok_e)))
  | .iff a b x y, h => by
    rw [St.okR.eq_2] at h
    rw [St.toD.eq_2]
    exact rok_n (by simp) (by simp) (rok_c rok_s (rok_c (rok_n (by simp) (by simp) (rok_c rok_s (rok_c (rok_n (by simp) (by simp) (rok_c rok_s (rok_c rok_s (rok_c (rf_rok a h.1.1) (rok_c (rf_rok b h.2.1.1) rok_e))))) rok_e))) (rok_c (sts_rok x h.2.2.1.1 h.2.2.1.2) (rok_c (sts_rok y h.2.2.2.1 h.2.2.2.2) rok_e))))
  | .ev a x y z, h => by
    rw [St.okR.eq_3] at h
    rw [St.toD.eq_3]
    exact rok_n (by simp) (by simp) (rok_c rok_s (rok_c (rok_n (by simp) (by simp) (rok_c (rok_n (by simp) (by simp) (rok_c rok_s (rok_c (rf_rok a h.1.1) rok_e))) rok_e)) (rok_c (rok_n (by simp) (by simp)
      (rok_c (rok_n (by simp) (by simp) (rok_c (rok_n (by simp) (by simp) (rok_c (rok_n (by simp) (by simp) (rok_c (rok_n (by simp) (by simp) (rok_c rok_s rok_e)) rok_e)) rok_e)) (rok_c (sts_rok x h.2.1.1 h.2.1.2) rok_e)))
      (rok_c (rok_n (by simp) (by simp) (rok_c (rok_n (by simp) (by simp) (rok_c (rok_n (by simp) (by simp) (rok_c (rok_n (by simp) (by simp) (rok_c rok_s (rok_c (rok_n (by simp) (by simp) (rok_c rok_s (rok_c rok_y rok_e))) (rok_c rok_b rok_e)))) rok_e)) rok_e)) (rok_c (sts_rok y h.2.2.1.1 h.2.2.1.2) rok_e))) rok_e))) (rok_c (sts_rok z h.2.2.2.1 h.2.2.2.2) rok_e))))
  | .pf a b c x, h => by
    rw [St.okR.eq_4] at h
    rw [St.toD.eq_4]
    exact rok_n (by simp) (by simp) (rok_c rok_s (rok_c (rok_n (by simp) (by simp) (rok_c rok_s (rok_c (sts_rok x h.2.2.2.1 h.2.2.2.2) rok_e))) (rok_c (rok_n (by simp) (by simp) (rok_c rok_s (rok_c rok_b (rok_c (rok_n (by simp) (by simp)
      (rok_c (rok_n (by simp) (by simp) (rok_c (rf_rok a h.1.1) (rok_c (num_rok 1) (rok_c (rf_rok b h.2.1.1) (rok_c (rok_n (by simp) (by simp) (rok_c rok_s (rok_c (rf_rok c h.2.2.1.1) rok_e))) rok_e))))) rok_e)) rok_e)))) rok_e)))
  | .br k a x y, h => by
    rw [St.okR.eq_5] at h
    rw [St.toD.eq_5]
    have et : (D.tup [.tup [sS "end", .tup (toDs mX x)], .tup [sS "not end", .tup (toDs mX y)]]).renOk := rok_n (by simp) (by simp) (rok_c (rok_n (by simp) (by simp) (rok_c rok_s (rok_c (sts_rok x h.2.1.1 h.2.1.2) rok_e))) (rok_c (rok_n (by simp) (by simp) (rok_c rok_s (rok_c (sts_rok y h.2.2.1 h.2.2.2) rok_e))) rok_e))
    by_cases h0 : k = 0
    · subst h0; rw [brHead0]
      exact rok_n (by simp) (by simp) (rok_c rok_s (rok_c rok_s (rok_c rok_b (rok_c (rf_rok a h.1.1) (rok_c rok_0 (rok_c et rok_e))))))
    · by_cases h1 : k = 1
      · subst h1; rw [brHead1]
        exact rok_n (by simp) (by simp) (rok_c rok_s (rok_c (rf_rok a h.1.1) (rok_c (rok_n (by simp) (by simp) (rok_c (rok_n (by simp) (by simp) (rok_c rok_s (rok_c (rf_rok a h.1.1) rok_e))) rok_e)) (rok_c et rok_e))))
      · rw [brHeadX h0 h1]
        exact rok_n (by simp) (by simp) (rok_c rok_s (rok_c (rf_rok a h.1.1) (rok_c (rok_n (by simp) (by simp) (rok_c rok_s (rok_c (rf_rok a h.1.1) rok_e))) (rok_c et rok_e))))
theorem sts_rok : ∀ l : List St, l.length ≤ 2 → okL l → (D.tup (toDs mX l)).renOk
  | l, hl, h => rok_n (by rw [toDs_len]; lia) (by rw [toDs_len]; lia) (stsL_rok l h)
theorem stsL_rok : ∀ l : List St, okL l → renOks (toDs mX l)
  | [], _ => by rw [toDs.eq_1]; exact rok_e
  | s :: r, h => by
    rw [okL.eq_2] at h
    rw [toDs.eq_2]
    exact rok_c (st_rok s h.1) (stsL_rok r h.2)
end
section
variable {g h h' : Heap} {L : Addr} {m : Str → Option Value} {led mt imm : List (Addr × Obj)} {M : List Nat}
/-- the law's frame behind a call that changes M alone: all else that stands is in imm, but at the addresses of X -/
theorem law_back {X : List Nat} (F : Fr g L h m) (N : News g L h led) (k : ∀ b o, h.get? b = some o → b ∉ M → h'.get? b = some o) (hM : ∀ a ∈ M, ∃ o, (a, o) ∈ led) (hX : ∀ a ∈ M, a ∈ X) (hm : ∀ p ∈ mt, h'.get? p.1 = some p.2 ∧ p.1 ∈ M) :
    Fr g L h' m ∧ ∃ imm, News g L h' (mt ++ imm) ∧ (∀ p ∈ imm, p.1 ∉ X) ∧ (∀ p ∈ led, p.1 ∉ X → p ∈ imm) ∧ (∀ a o, h'.get? a = some o → a ≠ L → a ∉ X → Lv g imm a o) := by
  have hMg : ∀ a ∈ M, a ≠ L ∧ g.get? a = none := fun a ha => by
    obtain ⟨o, hp⟩ := hM a ha
    exact ⟨(N _ hp).2.1, (N _ hp).2.2⟩
  have hF : Fr g L h' m := by
    obtain ⟨o, es, ep, ho, r⟩ := F.ns
    exact ⟨⟨o, es, ep, k _ _ ho fun q => (hMg _ q).1 rfl, r⟩, fun b o e => k _ _ (F.keep _ _ e) (fun q => by rw [(hMg _ q).2] at e; cases e), F.above⟩
  let pick : Nat → Option (Addr × Obj) := fun a => if a = L ∨ a ∈ X ∨ (g.get? a).isSome then none else (h'.get? a).map fun o => (a, o)
  have hmem : ∀ a o, h'.get? a = some o → a ≠ L → a ∉ X → g.get? a = none → (a, o) ∈ (List.range h'.objs.size).filterMap pick := fun a o e hL hc q => by
    refine List.mem_filterMap.mpr ⟨a, List.mem_range.mpr (Heap.lt_size e), ?_⟩
    simp only [pick]
    rw [if_neg (by simp [hL, hc, q]), e]; rfl
  refine ⟨hF, (List.range h'.objs.size).filterMap pick, ?_, ?_, ?_, ?_⟩
  · intro p hp
    rcases List.mem_append.mp hp with hp | hp
    · have := hm p hp
      exact ⟨this.1, hMg _ this.2⟩
    · obtain ⟨a, _, e⟩ := List.mem_filterMap.mp hp
      simp only [pick] at e
      split at e
      · cases e
      · (repeat (first | clear qk | clear ek))
        rename_i hn
        simp only [not_or] at hn
        obtain ⟨o, e1, e2⟩ := Option.map_eq_some_iff.mp e
        subst e2
        refine ⟨e1, hn.1, ?_⟩
        cases q : g.get? a with
        | none => rfl
        | some x => rw [q] at hn; exact absurd rfl hn.2.2
  · intro p hp
    obtain ⟨a, _, e⟩ := List.mem_filterMap.mp hp
    simp only [pick] at e
    split at e
    · cases e
    · (repeat (first | clear qk | clear ek))
      rename_i hn
      simp only [not_or] at hn
      obtain ⟨o, e1, e2⟩ := Option.map_eq_some_iff.mp e
      subst e2
      exact hn.2.1
  · intro p hp hpX
    exact hmem _ _ (k _ _ (N p hp).1 fun q => hpX (hX _ q)) (N p hp).2.1 hpX (N p hp).2.2
  · intro a o e hL hc
    cases q : g.get? a with
    | some x =>
      have := hF.keep _ _ q
      rw [e] at this
      exact .inl (q.trans this.symm)
    | none => exact .inr (hmem a o e hL hc q)
theorem law_dv {X : List Nat} (F : Fr g L h' m) (hX : ∀ a ∈ X, ∀ vs n, h'.get? a ≠ some (tupOf vs n)) (tot : ∀ a o, h'.get? a = some o → a ≠ L → a ∉ X → Lv g imm a o) {v : Value} {d : D} (x : Dv (Hv h') v d) : Dv (Lv g imm) v d :=
  x.mono fun a vs n e => tot a _ e (fun q => ns_not_tup F.ns (q ▸ e)) fun q => hX a q _ _ e
theorem law_dvs {X : List Nat} (F : Fr g L h' m) (hX : ∀ a ∈ X, ∀ vs n, h'.get? a ≠ some (tupOf vs n)) (tot : ∀ a o, h'.get? a = some o → a ≠ L → a ∉ X → Lv g imm a o) {v : List Value} {d : List D} (x : Dvs (Hv h') v d) : Dvs (Lv g imm) v d :=
  x.mono fun a vs n e => tot a _ e (fun q => ns_not_tup F.ns (q ▸ e)) fun q => hX a q _ _ e
theorem tab_nt {P : Addr} {ps : Array Value} (e : h.get? P = some (tabObj ps)) {vs n} : h.get? P ≠ some (tupOf vs n) := fun q => by
  rw [e] at q
  exact tab_ne (congrArg Obj.cls (Option.some.inj q))
theorem law_tab {X : List Nat} {P line col : Nat} {q : Str} {ps : Array Value} (F : Fr g L h' m) (tot : ∀ a o, h'.get? a = some o → a ≠ L → a ∉ P :: X → Lv g imm a o) (hP : h'.get? P = some (tabObj ps)) (T : TabV (Hv h') P line col q)
    (hX : ∀ a ∈ X, ∀ vs t o, h'.get? a = some o → o.data = .fields vs → vs[1]? ≠ some (.str q t)) : TabN g imm ps line col q := by
  rcases T with e | ⟨c', oc, vs, t, e, a, b1, b2⟩
  · have e : h'.get? P = some (tabObj #[]) := e
    rw [hP] at e
    refine .inl ?_
    injection e with e; injection e with _ _ e; injection e
  · have e : h'.get? P = some _ := e
    have a : h'.get? c' = some oc := a
    refine .inr ⟨c', oc, vs, t, ?_, tot _ _ a (fun z => ?_) fun z => ?_, b1, b2⟩
    · rw [hP] at e
      injection e with e; injection e with _ _ e; injection e
    · obtain ⟨o, es, ep, ho, hd, _⟩ := F.ns
      rw [z, ho] at a; cases a; rw [hd] at b1; cases b1
    · rcases List.mem_cons.mp z with z | z
      · rw [z, e] at a
        cases a
        injection b1 with b1
        rw [← b1] at b2
        simp [rawInt] at b2
      · exact hX _ z _ _ _ a b1 b2
end
/-- no text stands at the second place -/
noncomputable def IntAt (ps : Array Value) : Prop := ∀ x t, ps[1]? ≠ some (.str x t)
theorem intAt_nil : IntAt #[] := fun x t => by simp
theorem intAt_int {a : Value} {k : Nat} {r : List Value} : IntAt (a :: rawInt k :: r).toArray := fun x t e => by
  simp [rawInt] at e
theorem TabN.intAt {g : Heap} {nw : List (Addr × Obj)} {ps : Array Value} {line col : Nat} {q : Str} : TabN g nw ps line col q → IntAt ps := fun T => by
  rcases T with e | ⟨c', oc, vs, t, e, _⟩
  · rw [e]; exact intAt_nil
  · rw [e]; exact intAt_int
theorem tabV_int {h : Heap} {P line col : Nat} {q : Str} {ps : Array Value} (T : TabV (Hv h) P line col q) (e : h.get? P = some (tabObj ps)) : IntAt ps := by
  rcases T with x | ⟨c', oc, vs, t, x, _⟩
  · have x : h.get? P = some _ := x
    rw [e] at x
    injection x with x; injection x with _ _ x; injection x with x
    rw [x]; exact intAt_nil
  · have x : h.get? P = some _ := x
    rw [e] at x
    injection x with x; injection x with _ _ x; injection x with x
    rw [x]; exact intAt_int
theorem nt_list {h : Heap} {a : Nat} {its : Array Value} {k : Nat} (e : h.get? a = some (listOf its k)) : ∀ vs n, h.get? a ≠ some (tupOf vs n) := fun vs n => list_not_tup e
theorem nt_tab {h : Heap} {a : Nat} {ps : Array Value} (e : h.get? a = some (tabObj ps)) : ∀ vs n, h.get? a ≠ some (tupOf vs n) := fun vs n => tab_nt e
section
variable {prog : Program} {w : World} {A : Around} {E : Value → Shared → Prop} {s : Shared} {g : Heap} {L : Nat} {m : Str → Option Value} {led nw0 : List (Addr × Obj)} {ps : Array Value} {mk : Str} {v : Value} {st : St} {Q : Value → Shared → Prop}
theorem call_within (B : Base w g) (F : Fr g L s.heap m) (N : News g L s.heap led) (hP : (27, tabObj ps) ∈ led) (T : TabN g nw0 ps 22 4 qualB) (hn : ∀ p ∈ nw0, p ∈ led) (hv : Dv (Hv s.heap) v (st.toD mk)) (hb : st.pre.length ≤ 1000) (hA : A.handled = none) (hd : A.depth + 40 < 800) (hu : A.units + 80 < 4500)
    (h : ∀ h' tk' a vs n imm ps', Fr g L h' m → News g L h' ((27, tabObj ps') :: imm) → (a, listOf vs.toArray n) ∈ imm → (∀ p ∈ imm, p.1 ≠ 27) → (∀ p ∈ led, p.1 ≠ 27 → p ∈ imm) → IntAt ps' → Dvs (Lv g imm) vs (toDs mk (preL st.bodies.flatten)) → Q (.ref a) { s with heap := h', toks := tk' }) :
    wpAny (model prog w) A (call (.ref 44) [v]) Q E s := by
  refine wpAny_call (within_spec B F.keep (N.fresh hP) (T.tabV F N hP hn) hv hb hA hd hu fun h' tk' a vs n k T' ha hl dv => ?_)
  obtain ⟨ps', hP'⟩ := T'.has
  have hP' : h'.get? 27 = some (tabObj ps') := hP'
  obtain ⟨F', imm, N', off, sub, tot⟩ := law_back (X := [27]) (mt := [(27, tabObj ps')]) F N k.keep (List.forall_mem_cons.mpr ⟨⟨_, hP⟩, List.forall_mem_nil _⟩) (fun _ h => h) (List.forall_mem_cons.mpr ⟨⟨hP', by simp⟩, List.forall_mem_nil _⟩)
  have hX : ∀ a ∈ [27], ∀ vs n, h'.get? a ≠ some (tupOf vs n) := fun a ha => by rw [List.mem_singleton.mp ha]; exact nt_tab hP'
  have hL : L < a := Nat.lt_of_lt_of_le F.ns.lt ha
  have hm : (a, listOf vs.toArray n) ∈ imm := by
    have a27 : a ≠ 27 := fun q => by rw [q, hP'] at hl; cases hl
    refine (tot a _ hl (Nat.ne_of_gt hL) (by simpa using a27)).resolve_left fun e => ?_
    exact Nat.lt_irrefl _ (Nat.lt_of_lt_of_le (Heap.lt_size (F.keep _ _ e)) ha)
  exact h h' tk' a vs n imm ps' F' N' hm (fun p hp e => off p hp (by simp [e])) (fun p hp e => sub p hp (by simpa using e)) (tabV_int T' hP') (law_dvs F' hX tot dv)
/-- refs_within; I an object that stands aside -/
theorem call_refsw {I : Nat} {oI : Obj} (B : Base w g) (F : Fr g L s.heap m) (N : News g L s.heap led) (hP : (60, tabObj ps) ∈ led) (T : TabN g nw0 ps 43 36 qualW) (hn : ∀ p ∈ nw0, p ∈ led) (hI : (I, oI) ∈ led) (hI60 : I ≠ 60) (hdI : ∃ a j u, oI.data = .fields #[.ref a, .int j u]) (hv : Dv (Hv s.heap) v (st.toD mk)) (hok : st.okR)
    (hA : A.handled = none) (hd : A.depth + 40 < 800) (hu : A.units + 80 < 4500)
    (h : ∀ h' tk' a vs n imm ps', Fr g L h' m → News g L h' ((60, tabObj ps') :: (I, oI) :: imm) → (a, listOf vs.toArray n) ∈ imm → (∀ p ∈ imm, p.1 ≠ 60) → (∀ p ∈ imm, p.1 ≠ I) → (∀ p ∈ led, p.1 ≠ 60 → p.1 ≠ I → p ∈ imm) → TabN g imm ps' 43 36 qualW → Dvs (Lv g imm) vs (st.refs.map (Rf.toD mk)) → Q (.ref a) { s with heap := h', toks := tk' }) :
    wpAny (model prog w) A (call (.ref 65) [v]) Q E s := by
  refine wpAny_call (refsw_spec B F.keep (N.fresh hP) (T.tabV F N hP hn) hv (exch_good mk st) (exch_nodes mk hok) hA hd hu fun h' tk' a vs n k T' ha hl dv => ?_)
  rw [refs_exch] at dv
  obtain ⟨ps', hP'⟩ := T'.has
  have hP' : h'.get? 60 = some (tabObj ps') := hP'
  have eI := k.keep _ _ (N.get hI) (by simpa using hI60)
  obtain ⟨i1, i2, i3, hd9⟩ := hdI
  obtain ⟨F', imm, N', off, sub, tot⟩ := law_back (X := [60, I]) (mt := [(60, tabObj ps')]) F N k.keep (List.forall_mem_cons.mpr ⟨⟨_, hP⟩, List.forall_mem_nil _⟩) (fun a ha => by rw [List.mem_singleton.mp ha]; simp) (List.forall_mem_cons.mpr ⟨⟨hP', by simp⟩, List.forall_mem_nil _⟩)
  have hX : ∀ a ∈ [60, I], ∀ vs n, h'.get? a ≠ some (tupOf vs n) := List.forall_mem_cons.mpr ⟨nt_tab hP', List.forall_mem_cons.mpr ⟨fun vs n e => (by rw [eI] at e; cases e; cases hd9), List.forall_mem_nil _⟩⟩
  have hL : L < a := Nat.lt_of_lt_of_le F.ns.lt ha
  have hm : (a, listOf vs.toArray n) ∈ imm := by
    have a60 : a ≠ 60 := fun q => by rw [q, hP'] at hl; cases hl
    have aI : a ≠ I := fun q => by rw [q, eI] at hl; cases hl; cases hd9
    refine (tot a _ hl (Nat.ne_of_gt hL) (by simp [a60, aI])).resolve_left fun e => ?_
    exact Nat.lt_irrefl _ (Nat.lt_of_lt_of_le (Heap.lt_size (F.keep _ _ e)) ha)
  have hT : TabN g imm ps' 43 36 qualW := law_tab (X := [I]) F' tot hP' T' fun a ha vs t o e hd => by
    rw [List.mem_singleton.mp ha, eI] at e
    cases e
    rw [hd9] at hd
    injection hd with hd
    rw [← hd]
    simp
  have N2 : News g L h' ((60, tabObj ps') :: (I, oI) :: imm) := fun p hp => by
    simp only [List.mem_cons] at hp
    rcases hp with rfl | rfl | hp
    · exact N' _ (.head _)
    · exact ⟨eI, (N _ hI).2⟩
    · exact N' _ (.tail _ hp)
  exact h h' tk' a vs n imm ps' F' N2 hm (fun p hp e => off p hp (by simp [e])) (fun p hp e => off p hp (by simp [e])) (fun p hp e e2 => sub p hp (by simp [e, e2])) hT (law_dvs F' hX tot dv)
theorem sub_lv {value slice : Expr} {a j n u : Nat} {k : Int} {vs : List Value} {x : Value} (F : Fr g L s.heap m) (N : News g L s.heap led) (hg : Lv g nw0 a (tupOf vs n)) (hn : ∀ p ∈ nw0, p ∈ led) (hlo : -(2 ^ 63) ≤ k) (hhi : k < 2 ^ 63) (hj : seqIndex? k vs.length = some j) (hx : vs[j]? = some x) (h : Q x s)
    (hs : subscripted slice false (.ref a) (.int k u) = operate [.ref a, .int k u] (getItem (.ref a) (.int k u))) : wpAny (model prog w) A (subscriptTail value slice (.ref a) (.int k u)) Q E s :=
  item_tupleT ⟨_, lv_get F N hn hg, rfl, _, rfl⟩ hlo hhi hj hx h hs
theorem call_br (B : Base w g) (F : Fr g L s.heap m) (N : News g L s.heap led) (hn : ∀ p ∈ nw0, p ∈ led) (hv : Dv (Lv g nw0) v (st.toD mk)) (hA : A.handled = none) (hd : A.depth + 10 < 800) (hu : A.units + 20 < 4500)
    (h : ∀ h' tk' D kvs o imm, Fr g L h' m → News g L h' ((D, o) :: (led ++ imm)) → (D == sysModules) = false → o.IsDictOf (PySem.strKind prog w) kvs → Rows (Lv g imm) kvs (st.due mk) → Q (.ref D) { s with heap := h', toks := tk' }) :
    wpAny (model prog w) A (call (.ref 20) [v]) Q E s := by
  refine wpAny_call (branches_spec B F.keep (dv_up F N hn hv) hA hd hu fun h' tk' D kvs k hD hM hd' hr => ?_)
  obtain ⟨F', imm, N', off, sub, tot⟩ := law_back (X := []) (mt := []) F N k.keep (List.forall_mem_nil _) (List.forall_mem_nil _) (List.forall_mem_nil _)
  obtain ⟨o, eo, hdo⟩ := Heap.dictOf_iff.mp hd'
  refine h h' tk' D kvs o imm F' (fun p hp => ?_) hM hdo (hr.mono fun a vs n e => tot a _ e (fun q => ns_not_tup F'.ns (q ▸ e)) List.not_mem_nil)
  rcases List.mem_cons.mp hp with rfl | hp
  · refine ⟨eo, fun q => ?_, ?_⟩
    · obtain ⟨x, _, _, hx, _⟩ := F.ns
      rw [show D = L from q, hx] at hD; cases hD
    · cases z : g.get? D with
      | none => rfl
      | some o => rw [F.keep _ _ z] at hD; cases hD
  · rcases List.mem_append.mp hp with hp | hp
    · exact news_kp N k p hp
    · exact N' p hp
theorem call_dict {t n : Nat} {its : List Value} {kps : List (Str × Value)} (B : Base w g) (F : Fr g L s.heap m) (N : News g L s.heap led) (hx : Lv g nw0 t (tupOf its n)) (hn : ∀ p ∈ nw0, p ∈ led) (hA : A.handled = none) (hsz : its.length ≤ 1000) (hlen : its.length = kps.length)
    (hP : ∀ (i : Nat) v, its[i]? = some v → ∃ pt k u b m, v = Value.ref pt ∧ Lv g nw0 pt (tupOf [.str k u, b] m) ∧ kps[i]? = some (k, b))
    (h : ∀ h' tk' D o, Fr g L h' m → News g L h' ((D, o) :: led) → (D == sysModules) = false → o.IsDictOf (PySem.strKind prog w) (pairsOf kps) → Q (.ref D) { s with heap := h', toks := tk' }) :
    wpAny (model prog w) A (call (.type "dict") [.ref t]) Q E s := by
  obtain ⟨p, loose, mean, mg, mb, Tp⟩ := B.T
  refine dict_tup (lv_get F N hn hx) hA hsz hlen (fun i v hv => ?_) fun D h' tk kk hD hd => ?_
  · obtain ⟨pt, k, u, b, m, e, hp, hk⟩ := hP i v hv
    exact ⟨pt, k, u, b, m, e, lv_get F N hn hp, hk⟩
  · obtain ⟨o, eo, hdo⟩ := Heap.dictOf_iff.mp hd
    have hL : L < D := Nat.lt_of_lt_of_le F.ns.lt hD
    have hM : sysModules < D := Nat.lt_of_lt_of_le (modules_low Tp.nolimit) (Nat.le_trans F.above (Nat.le_of_lt hL))
    refine h h' tk D o (F.keeps kk) (fun p hp => ?_) (by simpa using Nat.ne_of_gt hM) hdo
    rcases List.mem_cons.mp hp with rfl | hp
    · refine ⟨eo, Nat.ne_of_gt hL, ?_⟩
      cases z : g.get? D with
      | none => rfl
      | some o => exact absurd (Heap.lt_size (F.keep _ _ z)) (Nat.not_lt.mpr hD)
    · exact ⟨kk _ _ (N p hp).1, (N p hp).2⟩
theorem ne_rowsL {a b : Nat} {oa ob : Obj} {ka kb : List (Str × Value)} {rs : List (Str × D)} {na nb : List (Addr × Obj)} (F : Fr g L s.heap m) (N : News g L s.heap led) (ma : (a, oa) ∈ led) (mb : (b, ob) ∈ led) (ha : (a == sysModules) = false) (hb : (b == sysModules) = false) (da : oa.IsDictOf (PySem.strKind prog w) ka) (db : ob.IsDictOf (PySem.strKind prog w) kb)
    (hna : ∀ p ∈ na, p ∈ led) (hnb : ∀ p ∈ nb, p ∈ led) (ra : Rows (Lv g na) ka rs) (rb : Rows (Lv g nb) kb rs) (nd : (rs.map (·.1)).Nodup) (hh : ∀ p ∈ rs, p.2.hgt ≤ 1000) (hu : A.units < 5000) (h : Q (.bool false) s) : wpAny (model prog w) A (compareOp .NotEq (.ref a) (.ref b)) Q E s :=
  ne_rows ha hb (Heap.dictOf_iff.mpr ⟨_, N.get ma, da⟩) (Heap.dictOf_iff.mpr ⟨_, N.get mb, db⟩) (ra.mono fun _ _ _ e => lv_get F N hna e) (rb.mono fun _ _ _ e => lv_get F N hnb e) nd hu hh h
theorem ne_LL {a b n n' : Nat} {vs ws : List Value} {ds : List D} {na nb : List (Addr × Obj)} (F : Fr g L s.heap m) (N : News g L s.heap led) (ma : (a, listOf vs.toArray n) ∈ led) (mb : (b, listOf ws.toArray n') ∈ led) (hna : ∀ p ∈ na, p ∈ led) (hnb : ∀ p ∈ nb, p ∈ led) (ra : Dvs (Lv g na) vs ds) (rb : Dvs (Lv g nb) ws ds) (hh : hgts ds ≤ 1000) (hu : A.units < 5000) (h : Q (.bool false) s) :
    wpAny (model prog w) A (compareOp .NotEq (.ref a) (.ref b)) Q E s :=
  ne_L (N.get ma) (N.get mb) (dvs_up F N hna ra) (dvs_up F N hnb rb) (by show A.units + hgts ds + 1 < 9900; lia) h
theorem ne_DD {v v' : Value} {ds : List D} {na nb : List (Addr × Obj)} (F : Fr g L s.heap m) (N : News g L s.heap led) (hna : ∀ p ∈ na, p ∈ led) (hnb : ∀ p ∈ nb, p ∈ led) (ra : Dv (Lv g na) v (.tup ds)) (rb : Dv (Lv g nb) v' (.tup ds)) (hh : hgts ds ≤ 1000) (hu : A.units < 5000) (h : Q (.bool false) s) :
    wpAny (model prog w) A (compareOp .NotEq v v') Q E s := ne_D (dv_up F N hna ra) (dv_up F N hnb rb) (by show A.units + hgts ds + 1 < 9900; lia) h
theorem eq_DD {v v' : Value} {ds : List D} {na nb : List (Addr × Obj)} (F : Fr g L s.heap m) (N : News g L s.heap led) (hna : ∀ p ∈ na, p ∈ led) (hnb : ∀ p ∈ nb, p ∈ led) (ra : Dv (Lv g na) v (.tup ds)) (rb : Dv (Lv g nb) v' (.tup ds)) (hh : hgts ds ≤ 1000) (hu : A.units < 5000) (h : Q (.bool true) s) :
    wpAny (model prog w) A (compareOp .Eq v v') Q E s := eq_D (dv_up F N hna ra) (dv_up F N hnb rb) (by show A.units + hgts ds + 1 < 9900; lia) h
/-- rebuilt in the law's frame -/
theorem call_reb {c K U : Nat} {Ms : List Nat} {S : (Addr → Obj → Prop) → List D → Prop} {rebD : St → D} {e : St → List D} (HS : ChgS Ms S)
    (C : ChgTo prog w c (fun v => [v]) Ms S (fun _ => True) (St.exch mk fun b => .tup (b.map rebD)) rebD e K U)
    (h46 : ∀ {V : Addr → Obj → Prop} {l : List D} {h : Heap} {ps : Array Value}, Sub V (Hv h) → V 46 (tabObj ps) → S V l → S (fun a o => V a o ∧ a ≠ 46) l)
    (B : Base w g) (F : Fr g L s.heap m) (N : News g L s.heap led) (hP : (46, tabObj ps) ∈ led) (hM : ∀ a ∈ Ms, ∃ o, (a, o) ∈ led) (n46 : 46 ∉ Ms) (hS : S (Hv s.heap) []) (T : TabV (Fz (Hv s.heap) Ms) 46 38 46 qualR) (hc : ∃ oc od fd sl, (c, (⟨oc, od, .func fd, sl⟩ : Obj)) ∈ led) (nc : c ∉ Ms)
    (hsq : ∀ h l, S (Hv h) l → ∀ a ∈ Ms, ∀ o, h.get? a = some o → (∀ vs, o.data ≠ .fields vs) ∧ ∀ vs n, o ≠ tupOf vs n)
    (hv : Dv (Hv s.heap) v (st.toD mk)) (hlev : st.lev < 4) (hpre : st.pre.length ≤ 1000) (hbd : (st.post.flatMap e).length ≤ 1000) (hA : A.handled = none) (hd : A.depth + (K + 40) < 800) (hu : A.units + (U + 120) < 4500)
    (h : ∀ h' tk' r imm ps', Fr g L h' m → News g L h' ((46, tabObj ps') :: imm) → (∀ p ∈ imm, p.1 ∉ 46 :: Ms) → (∀ p ∈ led, p.1 ∉ 46 :: Ms → p ∈ imm) → (∀ a ∈ Ms, ∀ o, h'.get? a = some o → News g L h' [(a, o)]) → S (Hv h') (st.post.flatMap e) → TabN g imm ps' 38 46 qualR → Dv (Lv g imm) r (rebD st) → Q r { s with heap := h', toks := tk' }) :
    wpAny (model prog w) A (call (.ref 51) [v, .ref c]) Q E s := by
  obtain ⟨oc, od, fd, sl, hc⟩ := hc
  refine wpAny_call (reb_all HS @C h46 4 (x := st) (l := []) (V := Hv s.heap) ⟨hlev, hpre⟩ B F.keep ?_ (fun _ _ e => e) ⟨hS, T, oc, od, fd, sl, N.get hc, nc⟩ hv (by simpa using hbd) hA hd hu fun h' tk' r k S' d' => ?_)
  · exact List.forall_mem_cons.mpr ⟨N.fresh hP, fun a ha => let ⟨o, ho⟩ := hM a ha; N.fresh ho⟩
  have sub1 : Sub (Aft (Hv s.heap) (46 :: Ms) s.heap h') (Hv h') := fun a o x => x.1
  have S2 := (rebS HS).mono sub1 S'
  obtain ⟨ps', hP'⟩ := S2.2.1.has
  have hP' : h'.get? 46 = some (tabObj ps') := hP'.1
  rw [List.nil_append] at S2
  obtain ⟨F', imm, N', off, sub, tot⟩ := law_back (X := 46 :: Ms) (mt := [(46, tabObj ps')]) F N k.keep (List.forall_mem_cons.mpr ⟨⟨_, hP⟩, hM⟩) (fun _ h => h) (List.forall_mem_cons.mpr ⟨⟨hP', by simp⟩, List.forall_mem_nil _⟩)
  have hX : ∀ a ∈ 46 :: Ms, ∀ vs n, h'.get? a ≠ some (tupOf vs n) := List.forall_mem_cons.mpr ⟨nt_tab hP', fun a ha vs n e => (hsq h' _ S2.1 a ha _ e).2 vs n rfl⟩
  have hT : TabN g imm ps' 38 46 qualR := law_tab (X := Ms) F' tot hP' (S2.2.1.mono fun a o x => x.1) fun a ha vs t o e hd => absurd hd ((hsq h' _ S2.1 a ha _ e).1 vs)
  refine h h' tk' r imm ps' F' N' off sub (fun a ha o e => ?_) S2.1 hT (law_dv F' hX tot (d'.sub sub1))
  obtain ⟨o', ho⟩ := hM a ha
  exact fun p hp => by rw [List.mem_singleton.mp hp]; exact ⟨e, (N _ ho).2⟩
end
mutual
theorem pre_post : ∀ (s x : St), x ∈ s.pre → x ∈ s.post
  | .mv a b, x, h => by
    rw [St.pre.eq_1] at h
    rw [St.post.eq_1]; exact h
  | .iff a b p q, x, h => by
    rw [St.pre.eq_2] at h
    rw [St.post.eq_2]
    simp only [List.mem_cons, List.mem_append, List.not_mem_nil, or_false] at h ⊢
    rcases h with h | h | h
    · exact .inr h
    · exact .inl (.inl (preL_postL p x h))
    · exact .inl (.inr (preL_postL q x h))
  | .ev a p q r, x, h => by
    rw [St.pre.eq_3] at h
    rw [St.post.eq_3]
    simp only [List.mem_cons, List.mem_append, List.not_mem_nil, or_false] at h ⊢
    rcases h with h | h | h | h
    · exact .inr h
    · exact .inl (.inl (preL_postL p x h))
    · exact .inl (.inr (.inl (preL_postL q x h)))
    · exact .inl (.inr (.inr (preL_postL r x h)))
  | .pf a b c p, x, h => by
    rw [St.pre.eq_4] at h
    rw [St.post.eq_4]
    simp only [List.mem_cons, List.mem_append, List.not_mem_nil, or_false] at h ⊢
    rcases h with h | h
    · exact .inr h
    · exact .inl (preL_postL p x h)
  | .br k a p q, x, h => by
    rw [St.pre.eq_5] at h
    rw [St.post.eq_5]
    simp only [List.mem_cons, List.mem_append, List.not_mem_nil, or_false] at h ⊢
    rcases h with h | h | h
    · exact .inr h
    · exact .inl (.inl (preL_postL p x h))
    · exact .inl (.inr (preL_postL q x h))
theorem preL_postL : ∀ (l : List St) (x : St), x ∈ preL l → x ∈ postL l
  | [], x, h => by rw [preL.eq_1] at h; exact nomatch h
  | s :: r, x, h => by
    rw [preL.eq_2] at h
    rw [postL.eq_2]
    exact List.mem_append.mpr ((List.mem_append.mp h).imp (pre_post s x) (preL_postL r x))
end
mutual
theorem post_lev : ∀ (s x : St), x ∈ s.post → x.lev ≤ s.lev
  | .mv a b, x, h => by
    rw [St.post.eq_1] at h
    rw [List.mem_singleton.mp h]; exact Nat.le_refl _
  | .iff a b p q, x, h => by
    rw [St.post.eq_2] at h
    simp only [List.mem_append, List.mem_singleton] at h
    rcases h with (h | h) | h
    · have := postL_lev p x h; rw [St.lev.eq_2]; lia
    · have := postL_lev q x h; rw [St.lev.eq_2]; lia
    · rw [h]; exact Nat.le_refl _
  | .ev a p q r, x, h => by
    rw [St.post.eq_3] at h
    simp only [List.mem_append, List.mem_singleton] at h
    rcases h with (h | h | h) | h
    · have := postL_lev p x h; rw [St.lev.eq_3]; lia
    · have := postL_lev q x h; rw [St.lev.eq_3]; lia
    · have := postL_lev r x h; rw [St.lev.eq_3]; lia
    · rw [h]; exact Nat.le_refl _
  | .pf a b c p, x, h => by
    rw [St.post.eq_4] at h
    simp only [List.mem_append, List.mem_singleton] at h
    rcases h with h | h
    · have := postL_lev p x h; rw [St.lev.eq_4]; lia
    · rw [h]; exact Nat.le_refl _
  | .br k a p q, x, h => by
    rw [St.post.eq_5] at h
    simp only [List.mem_append, List.mem_singleton] at h
    rcases h with (h | h) | h
    · have := postL_lev p x h; rw [St.lev.eq_5]; lia
    · have := postL_lev q x h; rw [St.lev.eq_5]; lia
    · rw [h]; exact Nat.le_refl _
theorem postL_lev : ∀ (l : List St) (x : St), x ∈ postL l → x.lev ≤ St.lev.lev l
  | [], x, h => by rw [postL.eq_1] at h; exact nomatch h
  | s :: r, x, h => by
    rw [postL.eq_2] at h
    rw [St.lev.lev.eq_2]
    rcases List.mem_append.mp h with h | h
    · have := post_lev s x h; lia
    · have := postL_lev r x h; lia
end
theorem hgts_le {K : Nat} : ∀ {l : List D}, (∀ d ∈ l, d.hgt ≤ K) → hgts l ≤ K
  | [], _ => by rw [hgts.eq_1]; exact Nat.zero_le _
  | d :: r, h => by
    rw [hgts.eq_2]
    exact Nat.max_le.mpr ⟨h d (.head _), hgts_le fun x hx => h x (.tail _ hx)⟩
theorem some_hgts (mk : Str) {s : St} (hok : s.okR) (hlev : s.lev ≤ 3) {l : List St} (hl : ∀ x ∈ l, x ∈ s.post) : hgts (toDs mk l) ≤ 100 := by
  rw [toDs_map]
  refine hgts_le fun d hd => ?_
  obtain ⟨x, hx, rfl⟩ := List.mem_map.mp hd
  have h1 := post_lev s x (hl x hx)
  have h2 := st_hgt mk x (post_ok s hok x (hl x hx))
  lia
theorem post_hgts (mk : Str) {s : St} (hok : s.okR) (hlev : s.lev ≤ 3) : hgts (toDs mk s.post) ≤ 100 := some_hgts mk hok hlev fun x h => h
theorem preb_hgts (mk : Str) {s : St} (hok : s.okR) (hlev : s.lev ≤ 3) : hgts (toDs mk (preL s.bodies.flatten)) ≤ 100 := some_hgts mk hok hlev fun x h => pre_post s x (by rw [pre_bodies]; exact .tail _ h)
theorem rf_hgts (mk : Str) {s : St} (hok : s.okR) : hgts (s.refs.map (Rf.toD mk)) ≤ 100 := by
  have fl : ∀ {r : Rf} (f : Rf), f ∈ r.flat → f.flat.length ≤ r.flat.length := by
    intro r
    induction r with
    | leaf k => intro f h; rw [List.mem_singleton.mp h]; exact Nat.le_refl _
    | node k s ih =>
      intro f h
      rcases List.mem_cons.mp h with rfl | h
      · exact Nat.le_refl _
      · have := ih f h
        show _ ≤ s.flat.length + 1; lia
  have hr : ∀ {r : Rf}, r.ok → ∀ f ∈ r.flat, (f.toD mk).hgt ≤ 100 := fun {r} h f hf => by
    have h1 := fl f hf
    have h2 := rf_hgt mk f
    have h3 := h.2
    lia
  refine hgts_le fun d hd => ?_
  obtain ⟨f, hf, rfl⟩ := List.mem_map.mp hd
  cases s with
  | mv a b =>
    rw [St.okR.eq_1] at hok
    exact (List.mem_append.mp hf).elim (hr hok.1 f) (hr hok.2 f)
  | iff a b x y =>
    rw [St.okR.eq_2] at hok
    exact (List.mem_append.mp hf).elim (hr hok.1 f) (hr hok.2.1 f)
  | ev a x y z =>
    rw [St.okR.eq_3] at hok
    exact hr hok.1 f hf
  | pf a b c x =>
    rw [St.okR.eq_4] at hok
    exact (List.mem_append.mp hf).elim (hr hok.1 f) fun hf => (List.mem_append.mp hf).elim (hr hok.2.1 f) (hr hok.2.2.1 f)
  | br k a x y =>
    rw [St.okR.eq_5] at hok
    have hf : f ∈ (if k = 0 then a.flat else a.flat ++ a.flat) := hf
    split at hf
    · exact hr hok.1 f hf
    · exact (List.mem_append.mp hf).elim (hr hok.1 f) (hr hok.1 f)
/-- the bodies of a branched statement -/
theorem due_hgt (mk : Str) {s : St} (hok : s.okR) (hlev : s.lev ≤ 3) : ∀ p ∈ s.due mk, p.2.hgt ≤ 1000 := by
  cases s with
  | br k a x y =>
    rw [St.okR.eq_5] at hok
    rw [St.lev.eq_5] at hlev
    have h1 := sts_hgt mk x hok.2.1.2
    have h2 := sts_hgt mk y hok.2.2.2
    refine List.forall_mem_cons.mpr ⟨?_, List.forall_mem_cons.mpr ⟨?_, List.forall_mem_nil _⟩⟩
    · show (D.tup (toDs mk x)).hgt ≤ 1000
      rw [hgt_t]; lia
    · show (D.tup (toDs mk y)).hgt ≤ 1000
      rw [hgt_t]; lia
  | _ => exact List.forall_mem_nil _
theorem due_nodup (mk : Str) (s : St) : ((s.due mk).map (·.1)).Nodup := by
  cases s with
  | br k a x y => show [Str.ofString "end", Str.ofString "not end"].Nodup; decide
  | _ => exact List.nodup_nil
mutual
theorem bare_hgt : ∀ d : D, d.bare.hgt ≤ d.hgt
  | .tup ds => by
    rw [D.bare.eq_1]
    split
    · rw [hgt_t, hgt_t, hgts_c, hgts_0, hgt_s]; lia
    · rw [hgt_t, hgt_t]
      exact Nat.succ_le_succ (bares_hgt ds)
  | .none => by rw [bare_none]; exact Nat.le_refl _
  | .bool b => by rw [bare_bool]; exact Nat.le_refl _
  | .int i => by rw [bare_int]; exact Nat.le_refl _
  | .str s => by rw [bare_str]; exact Nat.le_refl _
  | .bytes b => by rw [bare_bytes]; exact Nat.le_refl _
theorem bares_hgt : ∀ l : List D, hgts (bares l) ≤ hgts l
  | [] => by rw [bares_0]; exact Nat.le_refl _
  | d :: r => by
    rw [bares_c, hgts_c, hgts_c]
    have h1 := bare_hgt d
    have h2 := bares_hgt r
    lia
end
theorem bareD_tup (mk : Str) {s : St} (hok : s.okR) (hlev : s.lev ≤ 3) : ∃ ds, bareD mk s = .tup ds ∧ hgts ds ≤ 1000 := by
  obtain ⟨es, e⟩ := stD_tup mk s
  have h1 := bare_hgt (s.toD mk)
  have h2 := st_hgt mk s hok
  have e2 : bareD mk s = (D.tup es).bare := by show (s.toD mk).bare = _; rw [e]
  rw [D.bare.eq_1] at e2
  have h3 : (bareD mk s).hgt ≤ 40 := by
    show (s.toD mk).bare.hgt ≤ 40
    lia
  split at e2
  · rw [e2, hgt_t] at h3
    exact ⟨_, e2, by lia⟩
  · rw [e2, hgt_t] at h3
    exact ⟨_, e2, by lia⟩
/-- the law's walk from its statement k -/
noncomputable def LawFrom (prog : Program) (w : World) (k : Nat) (A : Around) (L : Nat) (Q : Flow → Shared → Prop) (E : Value → Shared → Prop) (s : Shared) : Prop :=
  ∀ (name qual : Str) (params : Arguments) (body : List Stmt) (scope : Scope) (dV kV doc pm cdv ct oc : Value) (an od : Option Addr) (osl : Array (Option Value)),
    (hdOg.heap_1 w.params).lookup 111 = some ⟨oc, od, .func (fnOf name qual params body scope dV kV doc pm an cdv ct), osl⟩ →
    wpAny (model prog w) (A.deeper (envOfC qual scope L 111 cdv)) (execs (body.drop k) (envOfC qual scope L 111 cdv)) Q E s
theorem LawFrom.intro {prog : Program} {w : World} {k : Nat} {A : Around} {L : Nat} {Q : Flow → Shared → Prop} {E : Value → Shared → Prop} {s : Shared}
    {name qual : Str} {params : Arguments} {body : List Stmt} {scope : Scope} {dV kV doc pm cdv ct oc : Value} {an od : Option Addr} {osl : Array (Option Value)}
    (ho : (hdOg.heap_1 w.params).lookup 111 = some ⟨oc, od, .func (fnOf name qual params body scope dV kV doc pm an cdv ct), osl⟩)
    (h : (hdOg.heap_1 w.params).lookup 111 = some ⟨oc, od, .func (fnOf name qual params body scope dV kV doc pm an cdv ct), osl⟩ →
      wpAny (model prog w) (A.deeper (envOfC qual scope L 111 cdv)) (execs (body.drop k) (envOfC qual scope L 111 cdv)) Q E s) : LawFrom prog w k A L Q E s := by
  intro name' qual' params' body' scope' dV' kV' doc' pm' cdv' ct' oc' an' od' osl' ho'
  have e := ho.symm.trans ho'
  injection e with e
  injection e with _ _ e _
  injection e with e
  injection e with e1 e2 e3 e4 e5 e6 e7 e8 e9 e10 e11
  injection e4 with e4
  subst_vars
  exact h ho
theorem LawFrom.out {prog : Program} {w : World} {k : Nat} {A : Around} {L : Nat} {Q : Flow → Shared → Prop} {E : Value → Shared → Prop} {s : Shared}
    {name qual : Str} {params : Arguments} {body : List Stmt} {scope : Scope} {dV kV doc pm cdv ct oc : Value} {an od : Option Addr} {osl : Array (Option Value)}
    (h : LawFrom prog w k A L Q E s) (ho : (hdOg.heap_1 w.params).lookup 111 = some ⟨oc, od, .func (fnOf name qual params body scope dV kV doc pm an cdv ct), osl⟩) :
    wpAny (model prog w) (A.deeper (envOfC qual scope L 111 cdv)) (execs (body.drop k) (envOfC qual scope L 111 cdv)) Q E s := h _ _ _ _ _ _ _ _ _ _ _ _ _ _ _ ho
/-! all that stands, but at X -/
section
variable {g h h' : Heap} {L : Addr} {m : Str → Option Value} {led imm : List (Addr × Obj)} {X : List Nat}
theorem led_all (X : List Nat) (F : Fr g L h m) : ∃ imm, News g L h imm ∧ (∀ p ∈ imm, p.1 ∉ X) ∧ (∀ a o, h.get? a = some o → a ≠ L → a ∉ X → Lv g imm a o) := by
  let pick : Nat → Option (Addr × Obj) := fun a => if a = L ∨ a ∈ X ∨ (g.get? a).isSome then none else (h.get? a).map fun o => (a, o)
  refine ⟨(List.range h.objs.size).filterMap pick, ?_, ?_, ?_⟩
  · intro p hp
    obtain ⟨a, _, e⟩ := List.mem_filterMap.mp hp
    simp only [pick] at e
    split at e
    · cases e
    · (repeat (first | clear qk | clear ek))
      rename_i hn
      simp only [not_or] at hn
      obtain ⟨o, e1, e2⟩ := Option.map_eq_some_iff.mp e
      subst e2
      refine ⟨e1, hn.1, ?_⟩
      cases q : g.get? a with
      | none => rfl
      | some x => rw [q] at hn; exact absurd rfl hn.2.2
  · intro p hp
    obtain ⟨a, _, e⟩ := List.mem_filterMap.mp hp
    simp only [pick] at e
    split at e
    · cases e
    · (repeat (first | clear qk | clear ek))
      rename_i hn
      simp only [not_or] at hn
      obtain ⟨o, e1, e2⟩ := Option.map_eq_some_iff.mp e
      subst e2
      exact hn.2.1
  · intro a o e hL hc
    cases q : g.get? a with
    | some x =>
      have := F.keep _ _ q
      rw [e] at this
      exact .inl (q.trans this.symm)
    | none =>
      refine .inr (List.mem_filterMap.mpr ⟨a, List.mem_range.mpr (Heap.lt_size e), ?_⟩)
      simp only [pick]
      rw [if_neg (by simp [hL, hc, q]), e]; rfl
end
section
variable {prog : Program} {w : World} {A : Around} {E : Value → Shared → Prop} {s : Shared} {g h₀ : Heap} {L a n : Nat} {m : Str → Option Value} {led : List (Addr × Obj)} {value slice : Expr} {ops : List Value} {Q : Value → Shared → Prop} {vs : List Value} {x : Value} {u : Tok}
theorem tail_pick : slicePick (x :: vs).toArray (some 1) none none = vs.toArray := by
  rw [kms_pick_eq]
  simp [kms_pick, kms_lo, kms_hi]
theorem tail_L (F : Fr g L h₀ m) (N : News g L h₀ led) (hm : (a, listOf (x :: vs).toArray n) ∈ led) (hz : vs.length ≤ 10000)
    (h : ∀ D' h', Fr g L h' m → News g L h' ((D', listOf vs.toArray 0) :: led) → (∀ p ∈ led, p.1 < D') → L < D' → Q (.ref D') { s with heap := h' })
    (hs : subscripted slice false (.ref a) (.ref h₀.objs.size) = operate ops (getItem (.ref a) (.ref h₀.objs.size))) :
    wpAny (model prog w) A (subscriptTail value slice (.ref a) (.ref h₀.objs.size)) Q E { s with heap := h₀.push { cls := .type "slice", data := .fields #[.int 1 u, .none, .none] } } := by
  have hL : L < h₀.objs.size := F.ns.lt
  have hl : (h₀.push { cls := .type "slice", data := .fields #[.int 1 u, .none, .none] }).IsList a (x :: vs).toArray := ⟨_, Heap.get?_push_of_some _ (N.get hm), rfl, _, rfl⟩
  refine tail_any (s := { s with heap := h₀.push { cls := .type "slice", data := .fields #[.int 1 u, .none, .none] } }) hl.typeIs slot_list_getitem.lookup
    (wpAny_getItem_list_slice (s := { s with heap := h₀.push { cls := .type "slice", data := .fields #[.int 1 u, .none, .none] } }) hl (Heap.IsSliceOf.new ..) (.int 1 u) .none .none (by decide) ?_ (by have : sizeLine = 2 ^ 24 := rfl; rw [List.size_toArray, List.length_cons]; lia)) hs
  rw [tail_pick]
  have N1 := News.push (F.push { cls := .type "slice", data := .fields #[.int 1 u, .none, .none] }) (N.grown fun _ _ e => Heap.get?_push_of_some _ e) (listOf vs.toArray 0)
  exact h _ _ ((F.push _).push _) N1 (fun p hp => by rw [Heap.size_push]; exact Nat.lt_succ_of_lt (Heap.lt_size (N p hp).1)) (by rw [Heap.size_push]; exact Nat.lt_succ_of_lt hL)
end
noncomputable abbrev lawX (L : Nat) : List Nat := [27, 46, 60, 106, L + 1]
/-- what stands between the law's statements -/
structure LawSt (g : Heap) (L : Nat) (h : Heap) (m : Str → Option Value) (r : Value) (aN a0 a1 a2 cl : Nat) (v0 v1 v2 vc : List Value) (nN n0 n1 n2 nc : Nat) (cells : List Int) (st : St) (fz : List (Addr × Obj)) (oM : Obj) : Prop where
  F : Fr g L h m
  mw : m (Str.ofString "whole") = some r
  mn : m (Str.ofString "notes") = some (.ref aN)
  mc : m (Str.ofString "cells") = some (.ref cl)
  eN : h.get? aN = some (listOf [.ref a0, .ref a1, .ref a2].toArray nN)
  e0 : h.get? a0 = some (listOf v0.toArray n0)
  e1 : h.get? a1 = some (listOf v1.toArray n1)
  e2 : h.get? a2 = some (listOf v2.toArray n2)
  ec : h.get? cl = some (listOf vc.toArray nc)
  eM : h.get? (L + 1) = some oM
  cM : ∃ v, oM.data = .cell v
  d0 : Dvs (Hv h) v0 (toDs mX st.pre)
  d1 : Dvs (Hv h) v1 (toDs mX st.post)
  d2 : Prs (Hv h) fz mX v2 st.post
  dr : Dv (Hv h) r (st.toD mX)
  ci : IntsAre vc cells
  fr : ∀ a ∈ [aN, a0, a1, a2, cl], g.get? a = none ∧ a ≠ L ∧ a ∉ lawX L
  frX : ∀ a ∈ lawX L, g.get? a = none ∧ a ≠ L
  zf : ∀ p ∈ fz, h.get? p.1 = some p.2 ∧ g.get? p.1 = none ∧ p.1 ≠ L ∧ p.1 ∉ lawX L
  tb : ∀ P ∈ [27, 46, 60, 106], ∃ ps, h.get? P = some (tabObj ps) ∧ IntAt ps
  lt : ∀ P ∈ [27, 46, 60, 106], P < L
theorem all4 {P : Nat → Prop} {a b c d : Nat} : (∀ x ∈ [a, b, c, d], P x) ↔ P a ∧ P b ∧ P c ∧ P d := by
  constructor
  · intro h
    exact ⟨h _ (by simp), h _ (by simp), h _ (by simp), h _ (by simp)⟩
  · rintro ⟨h1, h2, h3, h4⟩
    exact List.forall_mem_cons.mpr ⟨h1, List.forall_mem_cons.mpr ⟨h2, List.forall_mem_cons.mpr ⟨h3, List.forall_mem_cons.mpr ⟨h4, List.forall_mem_nil _⟩⟩⟩⟩
section
variable {g h h9 : Heap} {L aN a0 a1 a2 cl nN n0 n1 n2 nc : Nat} {m m9 : Str → Option Value} {r : Value} {v0 v1 v2 vc : List Value} {cells : List Int} {st : St} {fz imm led9 : List (Addr × Obj)} {oM oM9 : Obj} {p27 p46 p60 p106 : Array Value}
theorem LawSt.xt (S : LawSt g L h m r aN a0 a1 a2 cl v0 v1 v2 vc nN n0 n1 n2 nc cells st fz oM) : ∀ a ∈ lawX L, ∀ vs n, h.get? a ≠ some (tupOf vs n) := fun a ha vs n e => by
  have t : ∀ P ∈ [27, 46, 60, 106], P = a → False := fun P hP q => by
    obtain ⟨ps, x, _⟩ := S.tb P hP
    rw [q] at x
    exact tab_nt x e
  simp only [List.mem_cons, List.not_mem_nil, or_false] at ha
  rcases ha with q | q | q | q | q
  · exact t 27 (by simp) q.symm
  · exact t 46 (by simp) q.symm
  · exact t 60 (by simp) q.symm
  · exact t 106 (by simp) q.symm
  · have x := S.eM
    obtain ⟨v, c⟩ := S.cM
    rw [q, x] at e
    cases e; cases c
inductive LawSee (g : Heap) (L : Nat) (h : Heap) (r : Value) (aN a0 a1 a2 cl : Nat) (v0 v1 v2 vc : List Value) (nN n0 n1 n2 nc : Nat) (st : St) (fz : List (Addr × Obj)) (oM : Obj) (p27 p46 p60 p106 : Array Value) : Prop
  | mk (imm : List (Addr × Obj)) (N : News g L h ((27, tabObj p27) :: (46, tabObj p46) :: (60, tabObj p60) :: (106, tabObj p106) :: (L + 1, oM) :: imm)) (off : (∀ p ∈ imm, p.1 ∉ lawX L)) (tot : (∀ a o, h.get? a = some o → a ≠ L → a ∉ lawX L → Lv g imm a o)) (mN : (aN, listOf [.ref a0, .ref a1, .ref a2].toArray nN) ∈ imm) (m0 : (a0, listOf v0.toArray n0) ∈ imm) (m1 : (a1, listOf v1.toArray n1) ∈ imm) (m2 : (a2, listOf v2.toArray n2) ∈ imm) (mcl : (cl, listOf vc.toArray nc) ∈ imm) (hz : (∀ p ∈ fz, p ∈ imm)) (d0 : Dvs (Lv g imm) v0 (toDs mX st.pre)) (d1 : Dvs (Lv g imm) v1 (toDs mX st.post)) (d2 : Prs (Lv g imm) imm mX v2 st.post) (dr : Dv (Lv g imm) r (st.toD mX)) : LawSee g L h r aN a0 a1 a2 cl v0 v1 v2 vc nN n0 n1 n2 nc st fz oM p27 p46 p60 p106
theorem LawSt.start (S : LawSt g L h m r aN a0 a1 a2 cl v0 v1 v2 vc nN n0 n1 n2 nc cells st fz oM) (t27 : h.get? 27 = some (tabObj p27)) (t46 : h.get? 46 = some (tabObj p46)) (t60 : h.get? 60 = some (tabObj p60)) (t106 : h.get? 106 = some (tabObj p106)) :
    LawSee g L h r aN a0 a1 a2 cl v0 v1 v2 vc nN n0 n1 n2 nc st fz oM p27 p46 p60 p106 := by
  obtain ⟨imm, N, off, tot⟩ := led_all (lawX L) S.F
  have mem : ∀ a o, h.get? a = some o → (g.get? a = none ∧ a ≠ L ∧ a ∉ lawX L) → (a, o) ∈ imm := fun a o e q => (tot a o e q.2.1 q.2.2).resolve_left fun z => by rw [q.1] at z; cases z
  have hz : ∀ p ∈ fz, p ∈ imm := fun p hp => mem _ _ (S.zf p hp).1 (S.zf p hp).2
  have f := S.fr
  have x := S.frX
  have dn : ∀ {a vs n}, Hv h a (tupOf vs n) → Lv g imm a (tupOf vs n) := fun {a vs n} e => tot a _ e (fun q => ns_not_tup S.F.ns (q ▸ e)) fun q => S.xt a q _ _ e
  refine ⟨imm, fun p hp => ?_, off, tot, mem _ _ S.eN (f _ (by simp)), mem _ _ S.e0 (f _ (by simp)), mem _ _ S.e1 (f _ (by simp)), mem _ _ S.e2 (f _ (by simp)), mem _ _ S.ec (f _ (by simp)), hz, S.d0.mono fun _ _ _ => dn, S.d1.mono fun _ _ _ => dn, S.d2.mono (fun _ _ _ => dn) hz, S.dr.mono fun _ _ _ => dn⟩
  have fx : ∀ a ∈ lawX L, a ≠ L ∧ g.get? a = none := fun a ha => ⟨(x a ha).2, (x a ha).1⟩
  simp only [List.mem_cons] at hp
  rcases hp with rfl | rfl | rfl | rfl | rfl | hp
  · exact ⟨t27, fx _ (by simp)⟩
  · exact ⟨t46, fx _ (by simp)⟩
  · exact ⟨t60, fx _ (by simp)⟩
  · exact ⟨t106, fx _ (by simp)⟩
  · exact ⟨S.eM, fx _ (by simp)⟩
  · exact N p hp
theorem LawSt.next (S : LawSt g L h m r aN a0 a1 a2 cl v0 v1 v2 vc nN n0 n1 n2 nc cells st fz oM) (tot : ∀ a o, h.get? a = some o → a ≠ L → a ∉ lawX L → Lv g imm a o) (F9 : Fr g L h9 m9) (N9 : News g L h9 led9) (hs : ∀ p ∈ imm, p ∈ led9)
    (mw : m9 (Str.ofString "whole") = some r) (mn : m9 (Str.ofString "notes") = some (.ref aN)) (mc : m9 (Str.ofString "cells") = some (.ref cl)) (eM : h9.get? (L + 1) = some oM9) (cM : ∃ v, oM9.data = .cell v) (tb : ∀ P ∈ [27, 46, 60, 106], ∃ ps, h9.get? P = some (tabObj ps) ∧ IntAt ps) :
    LawSt g L h9 m9 r aN a0 a1 a2 cl v0 v1 v2 vc nN n0 n1 n2 nc cells st fz oM9 := by
  have k : ∀ a o, h.get? a = some o → (a ≠ L ∧ a ∉ lawX L) → h9.get? a = some o := fun a o e q => (tot a o e q.1 q.2).elim (fun z => F9.keep _ _ z) fun z => (N9 _ (hs _ z)).1
  have f : ∀ a ∈ [aN, a0, a1, a2, cl], a ≠ L ∧ a ∉ lawX L := fun a ha => (S.fr a ha).2
  have dn : ∀ {a vs n}, Hv h a (tupOf vs n) → Hv h9 a (tupOf vs n) := fun {a vs n} e => k a _ e ⟨fun q => ns_not_tup S.F.ns (q ▸ e), fun q => S.xt a q _ _ e⟩
  exact ⟨F9, mw, mn, mc, k _ _ S.eN (f _ (by simp)), k _ _ S.e0 (f _ (by simp)), k _ _ S.e1 (f _ (by simp)), k _ _ S.e2 (f _ (by simp)), k _ _ S.ec (f _ (by simp)), eM, cM, S.d0.mono fun _ _ _ => dn, S.d1.mono fun _ _ _ => dn, S.d2.mono (fun _ _ _ => dn) fun _ q => q, S.dr.mono fun _ _ _ => dn, S.ci, S.fr, S.frX,
    fun p hp => ⟨k _ _ (S.zf p hp).1 (S.zf p hp).2.2, (S.zf p hp).2⟩, tb, S.lt⟩
theorem LawSt.int (S : LawSt g L h m r aN a0 a1 a2 cl v0 v1 v2 vc nN n0 n1 n2 nc cells st fz oM) {P : Nat} {ps : Array Value} (hP : P ∈ [27, 46, 60, 106]) (e : h.get? P = some (tabObj ps)) : IntAt ps := by
  obtain ⟨ps', x, y⟩ := S.tb P hP
  rw [e] at x
  injection x with x; injection x with _ _ x; injection x with x
  rw [x]; exact y
/-- the code that the table at 46 holds lies among what stands -/
theorem LawSt.tab46 (S : LawSt g L h m r aN a0 a1 a2 cl v0 v1 v2 vc nN n0 n1 n2 nc cells st fz oM) (tot : ∀ a o, h.get? a = some o → a ≠ L → a ∉ lawX L → Lv g imm a o) {ps : Array Value} (e : h.get? 46 = some (tabObj ps)) {line col : Nat} {q : Str} (T : TabV (Hv h) 46 line col q) : TabN g imm ps line col q := by
  refine law_tab (X := [27, 60, 106, L + 1]) S.F (fun a o x1 x2 x3 => tot a o x1 x2 fun z => x3 ?_) e T fun a ha vs t o x1 x2 x3 => ?_
  · simp only [List.mem_cons, List.not_mem_nil, or_false] at z ⊢
    rcases z with z | z | z | z | z <;> simp only [z, true_or, or_true]
  · have tb : ∀ P ∈ [27, 46, 60, 106], P = a → False := fun P hP e => by
      obtain ⟨ps, y1, y2⟩ := S.tb P hP
      rw [e, x1] at y1
      cases y1
      injection x2 with x2
      exact y2 _ _ (x2 ▸ x3)
    simp only [List.mem_cons, List.not_mem_nil, or_false] at ha
    rcases ha with q | q | q | q
    · exact tb 27 (by simp) q.symm
    · exact tb 60 (by simp) q.symm
    · exact tb 106 (by simp) q.symm
    · obtain ⟨v, c⟩ := S.cM
      rw [q, S.eM] at x1
      cases x1
      rw [c] at x2
      cases x2
theorem fr_names (F : Fr g L h m) {a b c : Str} {x y z : Value} (ha : m a = some x) (hb : m b = some y) (hc : m c = some z) : Fr g L h (fun q => if q = a then some x else if q = b then some y else if q = c then some z else m q) := by
  have e : (fun q => if q = a then some x else if q = b then some y else if q = c then some z else m q) = m := by
    funext q
    by_cases h1 : q = a
    · subst h1; rw [if_pos rfl, ha]
    · rw [if_neg h1]
      by_cases h2 : q = b
      · subst h2; rw [if_pos rfl, hb]
      · rw [if_neg h2]
        by_cases h3 : q = c
        · subst h3; rw [if_pos rfl, hc]
        · rw [if_neg h3]
  rw [e]; exact F
end
theorem News.again {g h : Heap} {L : Addr} {led : List (Addr × Obj)} {p : Addr × Obj} (N : News g L h led) (hp : p ∈ led) : News g L h (p :: led) := fun q hq => (List.mem_cons.mp hq).elim (fun e => by rw [e]; exact N p hp) fun hq => N q hq
inductive HoldMark : Prop
  | mk
theorem Hold.mkAt {p : Prop} (_ : HoldMark) (h : Hold p) : p := h
theorem dvh {P : Addr → Obj → Prop} {v : Value} {x : Str} {ds : List D} (h : Dv P v (.tup (.str x :: ds))) : ∃ a t vs n, v = .ref a ∧ P a (tupOf (.str x t :: vs) n) := by
  obtain ⟨a, vs, n, hp, hvs⟩ := dvt h
  cases hvs with
  | cons p r =>
    obtain ⟨t, rfl⟩ := dvstr p
    exact ⟨a, t, _, n, rfl, hp⟩
section
variable {prog : Program} {w : World} {A : Around} {E : Value → Shared → Prop} {s : Shared} {g : Heap} {L a n u : Nat} {m : Str → Option Value} {led nw0 : List (Addr × Obj)} {vs : List Value} {x : Value} {Q : Value → Shared → Prop}
theorem sub_hlv {value slice : Expr} (F : Fr g L s.heap m) (N : News g L s.heap led) (hg : Lv g nw0 a (tupOf (x :: vs) n)) (hn : ∀ p ∈ nw0, p ∈ led) (h : Q x s)
    (hs : subscripted slice false (.ref a) (.int 0 u) = operate [.ref a, .int 0 u] (getItem (.ref a) (.int 0 u))) : wpAny (model prog w) A (subscriptTail value slice (.ref a) (.int 0 u)) Q E s :=
  sub_lv (k := 0) (j := 0) F N hg hn (by decide) (by decide) (by unfold seqIndex?; simp) rfl h hs
end
theorem seen46 {aF f' c' cell : Nat} {fobj oc ocell : Obj} (h1 : aF ≠ 46) (h2 : f' ≠ 46) (h3 : c' ≠ 46) (h4 : cell ≠ 46) {V : Addr → Obj → Prop} {l : List D} {h : Heap} {ps : Array Value} (hV : Sub V (Hv h)) (h46 : V 46 (tabObj ps)) (S : SeenS aF f' fobj c' oc cell ocell V l) :
    SeenS aF f' fobj c' oc cell ocell (fun a o => V a o ∧ a ≠ 46) l := by
  obtain ⟨⟨vs, n, a, b⟩, c, d, e⟩ := S
  exact ⟨⟨vs, n, ⟨a, h1⟩, b.mono fun a vs n q => ⟨q, fun z => tab_nt (hV _ _ h46) (z ▸ hV _ _ q)⟩⟩, ⟨c, h2⟩, ⟨d, h3⟩, ⟨e, h4⟩⟩
theorem seen_sq {aF f' c' cell : Nat} {fobj oc ocell : Obj} (h : Heap) (l : List D) (S : SeenS aF f' fobj c' oc cell ocell (Hv h) l) : ∀ a ∈ [aF], ∀ o, h.get? a = some o → (∀ vs, o.data ≠ .fields vs) ∧ ∀ vs n, o ≠ tupOf vs n := fun a ha o e => by
  obtain ⟨⟨vs, n, a1, b⟩, _⟩ := S
  have a1 : h.get? aF = some _ := a1
  rw [List.mem_singleton.mp ha, a1] at e
  cases e
  exact ⟨nofun, fun vs n q => list_ne (congrArg Obj.cls q)⟩
theorem flat_one (mk : Str) (l : List St) : l.flatMap (fun st => [st.toD mk]) = toDs mk l := by
  rw [toDs_map]
  induction l with
  | nil => rfl
  | cons a r ih => rw [List.flatMap_cons, ih]; rfl
section
variable {prog : Program} {w : World} {A : Around} {E : Value → Shared → Prop} {s : Shared} {g : Heap} {L aF f' c' cell n : Nat} {m : Str → Option Value} {led : List (Addr × Obj)} {oc ocell : Obj} {v : Value} {st : St}
  {name qual an : Str} {params : Arguments} {body : List Stmt} {scope : Scope} {cl : List (Str × Addr)} {doc pm ctv : Value} {vs' : Array Value} {t' : Tok} {Q : Value → Shared → Prop}
theorem call_meet (B : Base w g) (F : Fr g L s.heap m) (N : News g L s.heap led) (mF : (aF, listOf [].toArray n) ∈ led) (mf : (f', fnMade name qual params body scope cl doc pm c' ctv) ∈ led) (mc : (c', oc) ∈ led) (mcell : (cell, ocell) ∈ led) (m46 : (46, tabObj #[]) ∈ led)
    (n1 : 46 < aF) (n2 : c' < f') (n3 : 46 < c') (n4 : 46 < cell)
    (hocd : oc.data = .fields vs') (hq : vs'[1]? = some (.str qual t')) (hcl : ocell.data = .cell (some (.ref aF)))
    (hbind : ∀ s v, BindsTo s (fnX name qual params body scope cl .none .none doc pm none (.ref c') ctv) ⟨[v], []⟩ [(an, v)]) (hloc : scope.names.lookup an = some .local) (hcell : ∀ x ∈ scope.names, x.2 ≠ .cell)
    (hco : scope.isCoroutine = false) (hgen : scope.isGenerator = false) (hk : scope.kind = .function)
    (turn : ∀ {A : Around} {s : Shared} {g h₁ : Heap} {L tk : Nat} {v : Value} {vs : List Value} {n : Nat} {Q : Flow → Shared → Prop}, A.handled = none → A.depth + 2 < 800 → A.units + 6 < 4500 → Fr g L h₁ (fun y => [(an, v)].reverse.lookup y) → News g L h₁ [(aF, listOf vs.toArray n)] → Base w g →
      g.get? cell = some ocell → vs.length ≤ 1000 → (∀ h' tk' n' m', Fr g L h' m' → News g L h' [(aF, listOf (vs ++ [v]).toArray n')] → Q (.ret v) { s with heap := h', toks := tk' }) →
      wpAny (model prog w) (A.deeper (envX qual scope L f' (.ref c') cl)) (execs body (envX qual scope L f' (.ref c') cl)) Q (fun _ _ => False) { s with heap := h₁, toks := tk })
    (hv : Dv (Hv s.heap) v (st.toD mX)) (hlev : st.lev < 4) (hpre : st.pre.length ≤ 1000) (hA : A.handled = none) (hd : A.depth + 60 < 800) (hu : A.units + 200 < 4500)
    (h : ∀ h' tk' r vs n' imm ps', Fr g L h' m → News g L h' ((46, tabObj ps') :: (aF, listOf vs.toArray n') :: imm) → (∀ p ∈ imm, p.1 ≠ 46 ∧ p.1 ≠ aF) → (∀ p ∈ led, p.1 ≠ 46 → p.1 ≠ aF → p ∈ imm) → Dvs (Hv h') vs (toDs mX st.post) → TabN g imm ps' 38 46 qualR → Dv (Lv g imm) r (st.toD mX) → Q r { s with heap := h', toks := tk' }) :
    wpAny (model prog w) A (call (.ref 51) [v, .ref f']) Q E s := by
  have eδ : (St.exch mX fun b => .tup (b.map (St.toD mX))) = St.toD mX := funext (exch_id mX)
  have C0 : ChgSpec prog w f' [aF] (SeenS aF f' (fnMade name qual params body scope cl doc pm c' ctv) c' oc cell ocell) (fun _ : St => True) (St.toD mX) (St.toD mX) (fun x => [St.toD mX x]) 2 6 := chg_seen (α := St) (δ := St.toD mX) hocd hq hcl hbind hloc hcell hco hgen hk turn
  have C : ChgTo prog w f' (fun v => [v]) [aF] (SeenS aF f' (fnMade name qual params body scope cl doc pm c' ctv) c' oc cell ocell) (fun _ : St => True) (St.toD mX) (St.toD mX) (fun x => [St.toD mX x]) 2 6 := fun {A s G R v x l V} => @C0 A s G R v x l V
  have C' : ChgTo prog w f' (fun v => [v]) [aF] (SeenS aF f' (fnMade name qual params body scope cl doc pm c' ctv) c' oc cell ocell) (fun _ : St => True) (St.exch mX fun b => .tup (b.map (St.toD mX))) (St.toD mX) (fun x => [St.toD mX x]) 2 6 := by rw [eδ]; exact @C
  have x1 : (@Ne Nat aF 46) := Nat.ne_of_gt n1
  have x2 : (@Ne Nat f' 46) := Nat.ne_of_gt (Nat.lt_trans n3 n2)
  have x3 : (@Ne Nat c' 46) := Nat.ne_of_gt n3
  have x4 : (@Ne Nat cell 46) := Nat.ne_of_gt n4
  have y1 : (@Ne Nat f' aF) := ne_data (N.get mf) (N.get mF) nofun
  have y2 : (@Ne Nat c' aF) := ne_data (N.get mc) (N.get mF) (by rw [hocd]; nofun)
  have y4 : (@Ne Nat cell aF) := ne_data (N.get mcell) (N.get mF) (by rw [hcl]; nofun)
  have fl : st.post.flatMap (fun x => [St.toD mX x]) = toDs mX st.post := flat_one mX _
  refine call_reb (Ms := [aF]) (ps := #[]) (st := st) (mk := mX) (K := 2) (U := 6) seenS @C' (fun hV h4 S => seen46 x1 x2 x3 x4 hV h4 S) B F N m46 (List.forall_mem_cons.mpr ⟨⟨_, mF⟩, List.forall_mem_nil _⟩) (by simpa using Ne.symm x1) ⟨⟨[], n, N.get mF, .nil⟩, N.get mf, N.get mc, N.get mcell⟩
    (.inl ⟨N.get m46, by simpa using Ne.symm x1⟩) ⟨_, _, _, _, mf⟩ (by simpa using y1) seen_sq hv hlev hpre ?_ hA (by lia) (by lia) fun h' tk' r imm ps' F' N' off sub ms S' T' d' => ?_
  · rw [fl, toDs_len, post_len]; exact hpre
  · obtain ⟨⟨vs, n', a1, b⟩, _⟩ := S'
    rw [fl] at b
    refine h h' tk' r vs n' imm ps' F' (fun p hp => ?_) (fun p hp => ?_) (fun p hp e1 e2 => sub p hp (by simp [e1, e2])) b T' d'
    · simp only [List.mem_cons] at hp
      rcases hp with rfl | rfl | hp
      · exact N' _ (.head _)
      · exact ms aF (by simp) _ a1 _ (.head _)
      · exact N' _ (.tail _ hp)
    · have := off p hp
      simp only [List.mem_cons, List.not_mem_nil, or_false, not_or] at this
      exact this
end
noncomputable abbrev bareE (st : St) : D := st.exch mX fun b => .tup (b.map (bareD mX))
theorem bare_heads (st : St) : ∃ hd ds, bareE st = .tup (.str hd :: ds) ∧ ((hd = Str.ofString "move" ∧ bareD mX st = .tup [.str (Str.ofString "continue")]) ∨
    (hd ∈ [Str.ofString "if", Str.ofString "evaluate", Str.ofString "perform", Str.ofString "read", Str.ofString "call", Str.ofString "search-all"] ∧ bareD mX st = bareE st)) := by
  cases st with
  | mv a b => exact ⟨_, _, (show bareE (.mv a b) = St.toD mX (.mv a b) from rfl).trans (St.toD.eq_1 _ _ _), .inl ⟨rfl, mv_bare mX a b⟩⟩
  | iff a b x y => exact ⟨_, _, rfl, .inr ⟨by simp, bare_exch mX _ fun _ _ => nofun⟩⟩
  | ev a x y z => exact ⟨_, _, rfl, .inr ⟨by simp, bare_exch mX _ fun _ _ => nofun⟩⟩
  | pf a b c x => exact ⟨_, _, rfl, .inr ⟨by simp, bare_exch mX _ fun _ _ => nofun⟩⟩
  | br k a x y =>
    have e := bare_exch mX (.br k a x y) fun _ _ => nofun
    have q : bareE (.br k a x y) = D.tup (brHead k mX a ++ [.tup [.tup [sS "end", .tup (x.map (bareD mX))], .tup [sS "not end", .tup (y.map (bareD mX))]]]) := rfl
    by_cases h0 : k = 0
    · subst h0
      rw [brHead0] at q
      exact ⟨_, _, q, .inr ⟨by simp, e⟩⟩
    · by_cases h1 : k = 1
      · subst h1
        rw [brHead1] at q
        exact ⟨_, _, q, .inr ⟨by simp, e⟩⟩
      · rw [brHeadX h0 h1] at q
        exact ⟨_, _, q, .inr ⟨by simp, e⟩⟩
section
variable {prog : Program} {w : World} {A : Around} {E : Value → Shared → Prop} {s : Shared} {g : Heap} {L f' c' n : Nat} {m : Str → Option Value} {led : List (Addr × Obj)} {oc : Obj} {v : Value} {st : St} {ps : Array Value}
  {name qual an : Str} {params : Arguments} {body : Expr} {scope : Scope} {cl : List (Str × Addr)} {pm ctv : Value} {vs' : Array Value} {t' : Tok} {Q : Value → Shared → Prop}
theorem call_lamreb (B : Base w g) (F : Fr g L s.heap m) (N : News g L s.heap led) (mf : (f', kla_obj name qual params body scope cl pm c' ctv) ∈ led) (mc : (c', oc) ∈ led) (m46 : (46, tabObj ps) ∈ led) (T : TabV (Hv s.heap) 46 38 46 qualR)
    (n2 : c' < f') (n3 : 46 < c') (hocd : oc.data = .fields vs') (hq : vs'[1]? = some (.str qual t'))
    (hbind : ∀ v, bindArgs (kla_fn name qual params body scope cl pm (.ref c') ctv) ⟨[v], []⟩ = pure [(an, v)]) (hloc : scope.names.lookup an = some .local) (hcell : ∀ x ∈ scope.names, x.2 ≠ .cell)
    (hco : scope.isCoroutine = false) (hgen : scope.isGenerator = false) (hk : scope.kind = .function)
    (turn : ∀ {A : Around} {s : Shared} {g h₁ : Heap} {L tk : Nat} {v : Value} {x : St} {V : Addr → Obj → Prop} {Q : Value → Shared → Prop}, A.handled = none → A.depth + 3 < 800 → A.units + 12 < 4500 → Fr g L h₁ (fun y => [(an, v)].reverse.lookup y) → News g L h₁ [] → Base w g →
      (∀ a vs n, V a (tupOf vs n) → g.get? a = some (tupOf vs n)) → Dv V v (bareE x) →
      (∀ h' tk' r nw led' m', Fr g L h' m' → News g L h' led' → (∀ p ∈ nw, p ∈ led') → Dv (Vv V [] nw) r (bareD mX x) → Q r { s with heap := h', toks := tk' }) →
      wpAny (model prog w) (A.deeper (envX qual scope L f' (.ref c') cl)) (eval body (envX qual scope L f' (.ref c') cl)) Q (fun _ _ => False) { s with heap := h₁, toks := tk })
    (hv : Dv (Hv s.heap) v (st.toD mX)) (hlev : st.lev < 4) (hpre : st.pre.length ≤ 1000) (hA : A.handled = none) (hd : A.depth + 60 < 800) (hu : A.units + 200 < 4500)
    (h : ∀ h' tk' r imm ps', Fr g L h' m → News g L h' ((46, tabObj ps') :: imm) → (∀ p ∈ imm, p.1 ≠ 46) → (∀ p ∈ led, p.1 ≠ 46 → p ∈ imm) → IntAt ps' → Dv (Lv g imm) r (bareD mX st) → Q r { s with heap := h', toks := tk' }) :
    wpAny (model prog w) A (call (.ref 51) [v, .ref f']) Q E s := by
  have x2 : (@Ne Nat f' 46) := Nat.ne_of_gt (Nat.lt_trans n3 n2)
  have x3 : (@Ne Nat c' 46) := Nat.ne_of_gt n3
  have HS : ChgS [] (fun V (_ : List D) => KeepX [(f', kla_obj name qual params body scope cl pm c' ctv), (c', oc)] V) := ⟨fun hs x => keep_up hs x, fun _ => List.forall_mem_nil _⟩
  have C0 : ChgTo prog w f' (fun v => [v]) [] (fun V (_ : List D) => KeepX [(f', kla_obj name qual params body scope cl pm c' ctv), (c', oc)] V) (fun _ : St => True) bareE (bareD mX) (fun _ => []) 3 12 :=
    chg_lam (prog := prog) (w := w) (keep := [(f', kla_obj name qual params body scope cl pm c' ctv), (c', oc)]) (Ms := []) (S := fun V (_ : List D) => KeepX [(f', kla_obj name qual params body scope cl pm c' ctv), (c', oc)] V) (ok := fun _ : St => True) (δ := bareE) (f := bareD mX) (e := fun _ => []) (K := 3) (U := 12)
      HS (fun V l x p hp => ⟨x p hp, List.not_mem_nil⟩) (.head _) (.tail _ (.head _)) hocd hq hbind hloc hcell hco hgen hk
      (fun {A s g h₁ h₀ L tk v x l V mo Q} _ a2 a3 a4 a5 F N B' a8 a9 b1 b2 S' b4 b5 dv _ hQ => by
        have e := nil_of b2
        subst e
        refine turn (V := V) a2 a3 a4 F N B' b5 (dv.mono fun a vs n q => q.elim (fun z => z.1) fun z => nomatch z) fun h' tk' r nw led' m' F' N' hs d => ?_
        refine hQ h' tk' r [] nw led' m' F' N' hs (fun p hp => ?_) d
        exact (S' p hp).elim (fun z => .inl z) fun z => nomatch z)
  refine call_reb (Ms := []) (ps := ps) (st := st) (mk := mX) (K := 3) (U := 12) HS @C0 (fun hV h4 S p hp => ⟨S p hp, ?_⟩) B F N m46 (List.forall_mem_nil _) List.not_mem_nil ?_ (T.mono fun a o x => ⟨x, List.not_mem_nil⟩) ⟨_, _, _, _, mf⟩ List.not_mem_nil (fun _ _ _ => List.forall_mem_nil _) hv hlev hpre ?_ hA (by lia) (by lia) fun h' tk' r imm ps' F' N' off sub ms S' T' d' => ?_
  · simp only [List.mem_cons, List.not_mem_nil, or_false] at hp
    rcases hp with rfl | rfl
    · exact x2
    · exact x3
  · exact List.forall_mem_cons.mpr ⟨N.get mf, List.forall_mem_cons.mpr ⟨N.get mc, List.forall_mem_nil _⟩⟩
  · rw [flat_nil]; simp
  · exact h h' tk' r imm ps' F' N' (fun p hp e => off p hp (by simp [e])) (fun p hp e => sub p hp (by simp [e])) T'.intAt d'
end
section
variable {prog : Program} {w : World} {A : Around} {E : Value → Shared → Prop} {s : Shared} {g : Heap} {L : Nat} {m : Str → Option Value} {led : List (Addr × Obj)} {v : Value} {Q : Value → Shared → Prop}
theorem call_pure {α : Type} {c : Nat} {ar : Value → List Value} {ok : α → Prop} {δ f : α → D} {K U : Nat} {x : α} {vals : List Value} (C : PureTo prog w c ar ok δ f K U) (hx : ok x) (hvals : vals = ar v) (B : Base w g) (F : Fr g L s.heap m) (N : News g L s.heap led) (hv : Dv (Hv s.heap) v (δ x))
    (hA : A.handled = none) (hd : A.depth + K < 800) (hu : A.units + U < 4500)
    (h : ∀ h' tk' r imm, Fr g L h' m → News g L h' (led ++ imm) → Dv (Lv g imm) r (f x) → Q r { s with heap := h', toks := tk' }) : wpAny (model prog w) A (call (.ref c) vals) Q E s := by
  subst hvals
  refine wpAny_call (C (l := []) (V := Hv s.heap) hx B F.keep (List.forall_mem_nil _) (fun _ _ e => e) trivial hv (by simp) hA hd hu fun h' tk' r k _ d' => ?_)
  obtain ⟨F', imm, N', off, sub, tot⟩ := law_back (X := []) (mt := []) F N k.keep (List.forall_mem_nil _) (List.forall_mem_nil _) (List.forall_mem_nil _)
  refine h h' tk' r imm F' (fun p hp => ?_) (d'.mono fun a vs n e => tot a _ e.1 (fun q => ns_not_tup F'.ns (q ▸ e.1)) List.not_mem_nil)
  rcases List.mem_append.mp hp with hp | hp
  · exact news_kp N k p hp
  · exact N' p hp
end
noncomputable abbrev lawSt (cells : List Int) : St := (madeF 3 ⟨cells, 0⟩ 0).1
section
variable {prog : Program} {w : World} {A : Around} {E : Value → Shared → Prop} {s : Shared} {g : Heap} {L aT aC aN a0 a1 a2 nT nC nN n0 n1 n2 tk mt dt : Nat} {m : Str → Option Value} {led : List (Addr × Obj)} {vs : List Value} {cells : List Int} {mk : Str} {Q : Value → Shared → Prop}
theorem call_lawmade (B : Base w g) (F : Fr g L s.heap m) (N : News g L s.heap led) (hT : (aT, listOf [.ref aC, .int 0 tk].toArray nT) ∈ led) (hC : (aC, listOf vs.toArray nC) ∈ led) (hN : (aN, listOf [.ref a0, .ref a1, .ref a2].toArray nN) ∈ led)
    (h0 : (a0, listOf [].toArray n0) ∈ led) (h1 : (a1, listOf [].toArray n1) ∈ led) (h2 : (a2, listOf [].toArray n2) ∈ led) (hvs : IntsAre vs cells) (hpos : 0 < cells.length) (hlen : cells.length ≤ 60) (nd : [aT, aC, aN, a0, a1, a2].Nodup) (hmk : mk.length = 1)
    (hA : A.handled = none) (hd : A.depth + 20 < 800) (hu : A.units + 100 < 4500)
    (h : ∀ h' tk' r vs0 vs1 vs2 fz imm n0' n1' n2', Fr g L h' m → News g L h' imm → (∀ p ∈ led, p.1 ∉ [aT, aC, a0, a1, a2] → p ∈ imm) → (a0, listOf (r :: vs0).toArray n0') ∈ imm → (a1, listOf vs1.toArray n1') ∈ imm → (a2, listOf vs2.toArray n2') ∈ imm →
      Dvs (Lv g imm) (r :: vs0) (toDs mk (lawSt cells).pre) → Dvs (Lv g imm) vs1 (toDs mk (lawSt cells).post) → Prs (Lv g imm) fz mk vs2 (lawSt cells).post → (∀ p ∈ fz, p ∈ imm ∧ s.heap.objs.size ≤ p.1) → Q r { s with heap := h', toks := tk' }) :
    wpAny (model prog w) A (call (.ref 97) [.ref aT, .str mk mt, .int 3 dt, .ref aN]) Q E s := by
  have e3 : drawsAt 3 = 4875 := by decide
  have c3 : cntAt 3 = 259 := by decide
  have S : MadeSpec prog w 3 := made_step 3 (Nat.le_refl _)
  have key : codeAny (model prog w) A (.call (.ref 97) ⟨[.ref aT, .str mk mt, .int ((3 : Nat) : Int) dt, .ref aN], []⟩) (fun r s' => ∃ v, r = .ok (.ret v) ∧ Q v s') s := by
    refine S (T := ⟨cells, 0⟩) (l := ⟨[], [], []⟩) B F.keep ⟨_, _, _, _, N.get hT, N.get hC, hvs⟩ ⟨hpos, by show cells.length ≤ 1000; lia, Int.le_refl _⟩ ⟨_, _, _, _, N.get hN, N.get h0, N.get h1, N.get h2⟩ ?_ nd ?_ ?_ ?_ ?_ hmk hA (by lia) (by lia) ?_
    · exact List.forall_mem_cons.mpr ⟨N.fresh hT, List.forall_mem_cons.mpr ⟨N.fresh hC, List.forall_mem_cons.mpr ⟨N.fresh hN, List.forall_mem_cons.mpr ⟨N.fresh h0, List.forall_mem_cons.mpr ⟨N.fresh h1, List.forall_mem_cons.mpr ⟨N.fresh h2, List.forall_mem_nil _⟩⟩⟩⟩⟩⟩
    · rw [c3]; show 0 + 259 ≤ 5000; lia
    · rw [c3]; show 0 + 259 ≤ 5000; lia
    · rw [c3]; show 0 + 259 ≤ 5000; lia
    · rw [e3]; show (0 : Int) + 4875 < 80000; lia
    · rintro h' tk' r vs0 vs1 vs2 fz ⟨k, TA, ⟨nN', n0', n1', n2', qN, q0, q1, q2⟩, d0, d1, d2, hz⟩
      have F' : Fr g L h' m := by
        obtain ⟨o, es, ep, ho, rr⟩ := F.ns
        have hM : ∀ a ∈ [aT, aC, a0, a1, a2], a ≠ L ∧ g.get? a = none := all5 (N _ hT).2 (N _ hC).2 (N _ h0).2 (N _ h1).2 (N _ h2).2
        exact ⟨⟨o, es, ep, k.keep _ _ ho fun q => (hM _ q).1 rfl, rr⟩, fun b o e => k.keep _ _ (F.keep _ _ e) (fun q => by rw [(hM _ q).2] at e; cases e), F.above⟩
      obtain ⟨imm, N', _, tot⟩ := led_all [] F'
      have hin : ∀ a o, h'.get? a = some o → a ≠ L ∧ g.get? a = none → (a, o) ∈ imm := fun a o e q => (tot a o e q.1 List.not_mem_nil).resolve_left fun z => by rw [q.2] at z; cases z
      have dn : ∀ a vs n, Nv s.heap h' a (tupOf vs n) → Lv g imm a (tupOf vs n) := fun a vs n e => tot a _ e.1 (fun q => ns_not_tup F'.ns (q ▸ e.1)) List.not_mem_nil
      refine ⟨r, rfl, h h' tk' r vs0 vs1 vs2 fz imm n0' n1' n2' F' N' (fun p hp hn => hin _ _ (k.keep _ _ (N p hp).1 hn) (N p hp).2) (hin _ _ q0 (N _ h0).2) (hin _ _ q1 (N _ h1).2) (hin _ _ q2 (N _ h2).2) (d0.mono dn) (d1.mono dn) (d2.mono dn fun _ q => q) fun p hp => ⟨hin _ _ (hz p hp).1 ⟨fun e => ?_, ?_⟩, (hz p hp).2⟩⟩
      · exact Nat.lt_irrefl _ (Nat.lt_of_lt_of_le F.ns.lt (e ▸ (hz p hp).2))
      · cases z : g.get? p.1 with
        | none => rfl
        | some o => exact absurd (Heap.lt_size (F.keep _ _ z)) (Nat.not_lt.mpr (hz p hp).2)
  refine wpAny_call (codeAny_mono key fun r s' q => ?_)
  obtain ⟨v, rfl, hq⟩ := q
  exact hq
end
theorem nd_of {a b c d e f : Nat} (h1 : a ≠ b) (h2 : a ≠ c) (h3 : a ≠ d) (h4 : a ≠ e) (h5 : a ≠ f) (h6 : b ≠ c) (h7 : b ≠ d) (h8 : b ≠ e) (h9 : b ≠ f) (k1 : c ≠ d) (k2 : c ≠ e) (k3 : c ≠ f) (k4 : d ≠ e) (k5 : d ≠ f) (k6 : e ≠ f) : [a, b, c, d, e, f].Nodup := by
  simp only [List.nodup_cons, List.mem_cons, List.not_mem_nil, or_false, not_or, not_false_eq_true, List.nodup_nil, and_true]
  exact ⟨⟨h1, h2, h3, h4, h5⟩, ⟨h6, h7, h8, h9⟩, ⟨k1, k2, k3⟩, ⟨k4, k5⟩, k6⟩
theorem nd6 {d t x y z n : Nat} (h1 : d < t) (h2 : t < x) (h3 : x < y) (h4 : y < z) (h5 : z < n) : [t, d, n, x, y, z].Nodup :=
  have a1 := Nat.lt_trans h1 h2; have a2 := Nat.lt_trans h2 h3; have a3 := Nat.lt_trans a2 h4; have a4 := Nat.lt_trans a3 h5
  have b1 := Nat.lt_trans h3 h4; have b2 := Nat.lt_trans b1 h5; have b3 := Nat.lt_trans h4 h5
  nd_of (Nat.ne_of_gt h1) (Nat.ne_of_lt a4) (Nat.ne_of_lt h2) (Nat.ne_of_lt a2) (Nat.ne_of_lt a3) (Nat.ne_of_lt (Nat.lt_trans h1 a4)) (Nat.ne_of_lt a1) (Nat.ne_of_lt (Nat.lt_trans h1 a2)) (Nat.ne_of_lt (Nat.lt_trans h1 a3)) (Nat.ne_of_gt b2) (Nat.ne_of_gt b3) (Nat.ne_of_gt h5) (Nat.ne_of_lt h3) (Nat.ne_of_lt b1) (Nat.ne_of_lt h4)
theorem withLaw {P : Prop} {w : World} {name qual : Str} {params : Arguments} {body : List Stmt} {scope : Scope} {dV kV doc pm cdv ct oc : Value} {an od : Option Addr} {osl : Array (Option Value)}
    (ho : (hdOg.heap_1 w.params).lookup 111 = some ⟨oc, od, .func (fnOf name qual params body scope dV kV doc pm an cdv ct), osl⟩)
    (h : (hdOg.heap_1 w.params).lookup 111 = some ⟨oc, od, .func (fnOf name qual params body scope dV kV doc pm an cdv ct), osl⟩ → P) : P := h ho
theorem lawSt_mk {g h0 h9 : Heap} {L aT aC aN a0 a1 a2 cl nN nc k0 k1 k2 : Nat} {m9 : Str → Option Value} {led imm fz : List (Addr × Obj)} {oM o0 o1 o2 oT oC : Obj} {r : Value} {vs0 vs1 vs2 vc : List Value} {cells : List Int}
    (F : ∃ m, Fr g L h0 m) (N : News g L h0 led) (F9 : Fr g L h9 m9) (N9 : News g L h9 imm) (sub : ∀ p ∈ led, p.1 ∉ [aT, aC, a0, a1, a2] → p ∈ imm) (mT : (aT, oT) ∈ led) (mC : (aC, oC) ∈ led)
    (mN : (aN, listOf [.ref a0, .ref a1, .ref a2].toArray nN) ∈ led) (m0 : (a0, o0) ∈ led) (m1 : (a1, o1) ∈ led) (m2 : (a2, o2) ∈ led) (mcl : (cl, listOf vc.toArray nc) ∈ led) (mM : (L + 1, oM) ∈ led)
    (t27 : (27, tabObj #[]) ∈ led) (t46 : (46, tabObj #[]) ∈ led) (t60 : (60, tabObj #[]) ∈ led) (t106 : (106, tabObj #[]) ∈ led)
    (x0 : L + 1 < cl) (x1 : cl < a0) (x2 : a0 < a1) (x3 : a1 < a2) (x4 : a2 < aN) (x5 : aN < aC) (x6 : aC < aT) (l27 : 27 < L) (l46 : 46 < L) (l60 : 60 < L) (l106 : 106 < L)
    (q0 : (a0, listOf (r :: vs0).toArray k0) ∈ imm) (q1 : (a1, listOf vs1.toArray k1) ∈ imm) (q2 : (a2, listOf vs2.toArray k2) ∈ imm)
    (e0 : Dvs (Lv g imm) (r :: vs0) (toDs mX (lawSt cells).pre)) (e1 : Dvs (Lv g imm) vs1 (toDs mX (lawSt cells).post)) (e2 : Prs (Lv g imm) fz mX vs2 (lawSt cells).post) (hfz : ∀ p ∈ fz, p ∈ imm ∧ h0.objs.size ≤ p.1)
    (ci : IntsAre vc cells) (cM : oM.data = .cell none) (mw : m9 (Str.ofString "whole") = some r) (mn : m9 (Str.ofString "notes") = some (.ref aN)) (mc : m9 (Str.ofString "cells") = some (.ref cl)) :
    LawSt g L h9 m9 r aN a0 a1 a2 cl (r :: vs0) vs1 vs2 vc nN k0 k1 k2 nc cells (lawSt cells) fz oM ∧ (∀ P ∈ [27, 46, 60, 106], h9.get? P = some (tabObj #[])) := by
  have low : ∀ (a : Nat) (o : Obj), a < a0 ∨ a = aN → (a, o) ∈ led → h9.get? a = some o := fun a o lt hm => (N9 _ (sub _ hm fun q => by
    simp only [List.mem_cons, List.not_mem_nil, or_false] at q
    have q : a = aT ∨ a = aC ∨ a = a0 ∨ a = a1 ∨ a = a2 := q
    lia)).1
  have tb : ∀ P ∈ [27, 46, 60, 106], h9.get? P = some (tabObj #[]) := all4.mpr ⟨low 27 _ (.inl (by lia)) t27, low 46 _ (.inl (by lia)) t46, low 60 _ (.inl (by lia)) t60, low 106 _ (.inl (by lia)) t106⟩
  have up : ∀ p ∈ imm, p ∈ imm := fun _ h => h
  have hM : L + 1 < h0.objs.size := Heap.lt_size (N _ mM).1
  have fX : ∀ (a : Nat) (o : Obj), (a, o) ∈ led → g.get? a = none ∧ a ≠ L := fun a o hm => ⟨(N _ hm).2.2, (N _ hm).2.1⟩
  have nX : ∀ a : Nat, L + 1 < a → a ∉ lawX L := fun a ha q => by
    simp only [List.mem_cons, List.not_mem_nil, or_false] at q
    lia
  refine ⟨⟨F9, mw, mn, mc, low aN _ (.inr rfl) mN, N9.get q0, N9.get q1, N9.get q2, low cl _ (.inl x1) mcl, low (L + 1) _ (.inl (by lia)) mM, ⟨none, cM⟩, dvs_up F9 N9 up e0, dvs_up F9 N9 up e1, e2.mono (fun _ _ _ z => lv_get F9 N9 up z) (fun _ z => z), dv_up F9 N9 up (toDs_pre e0), ci, ?_, ?_, ?_, fun P hP => ⟨_, tb P hP, intAt_nil⟩, all4.mpr ⟨l27, l46, l60, l106⟩⟩, tb⟩
  · exact List.forall_mem_cons.mpr ⟨⟨(fX _ _ mN).1, (fX _ _ mN).2, nX _ (by lia)⟩, List.forall_mem_cons.mpr ⟨⟨(fX _ _ m0).1, (fX _ _ m0).2, nX _ (by lia)⟩, List.forall_mem_cons.mpr ⟨⟨(fX _ _ m1).1, (fX _ _ m1).2, nX _ (by lia)⟩, List.forall_mem_cons.mpr ⟨⟨(fX _ _ m2).1, (fX _ _ m2).2, nX _ (by lia)⟩, List.forall_mem_cons.mpr ⟨⟨(fX _ _ mcl).1, (fX _ _ mcl).2, nX _ (by lia)⟩, List.forall_mem_nil _⟩⟩⟩⟩⟩
  · exact List.forall_mem_cons.mpr ⟨fX _ _ t27, List.forall_mem_cons.mpr ⟨fX _ _ t46, List.forall_mem_cons.mpr ⟨fX _ _ t60, List.forall_mem_cons.mpr ⟨fX _ _ t106, List.forall_mem_cons.mpr ⟨fX _ _ mM, List.forall_mem_nil _⟩⟩⟩⟩⟩
  · intro p hp
    obtain ⟨h1, h2⟩ := hfz p hp
    exact ⟨(N9 p h1).1, (N9 p h1).2.2, (N9 p h1).2.1, nX _ (Nat.lt_of_lt_of_le hM h2)⟩
theorem nd6' {aT aC aN a0 a1 a2 : Nat} (x2 : a0 < a1) (x3 : a1 < a2) (x4 : a2 < aN) (x5 : aN < aC) (x6 : aC < aT) : [aT, aC, aN, a0, a1, a2].Nodup :=
  have a1 := Nat.lt_trans x2 x3; have a2 := Nat.lt_trans a1 x4; have a3 := Nat.lt_trans a2 x5
  have b1 := Nat.lt_trans x3 x4; have b2 := Nat.lt_trans b1 x5; have b3 := Nat.lt_trans x4 x5
  nd_of (Nat.ne_of_gt x6) (Nat.ne_of_gt (Nat.lt_trans x5 x6)) (Nat.ne_of_gt (Nat.lt_trans a3 x6)) (Nat.ne_of_gt (Nat.lt_trans b2 x6)) (Nat.ne_of_gt (Nat.lt_trans b3 x6)) (Nat.ne_of_gt x5) (Nat.ne_of_gt a3) (Nat.ne_of_gt b2) (Nat.ne_of_gt b3) (Nat.ne_of_gt a2) (Nat.ne_of_gt b1) (Nat.ne_of_gt x4) (Nat.ne_of_lt x2) (Nat.ne_of_lt a1) (Nat.ne_of_lt x3)
theorem rulesP1 : True := by
  w_top off
  k_with_none
  k_with "spliced" => ((with_reducible show wpAny _ _ (spliced (backTo _ (starEach (_ :: _) _))) _ _ _); k_dflt (refine' args_at ?ogF ?ogk ?ogv ?_; (case ogF => k_asm); (case ogk => rfl); (case ogv => rfl)); k_whole)
  k_with "eval Constant int" => refine int_at ?_
  k_with "eval Constant str" => refine str_at ?_
  k_with "eval Call" => (k_dflt (first | (refine' callK_at ?ogF ?ogX ?ogT ?oge ?ogf ?ogk ?ogg ?ogd ?ogv ?_; (case ogX => k_asm); (case ogT => k_asm); (case oge => k_is); (case ogf => k_is); (case ogg => rfl); (case ogd => rfl); (case ogF => k_asm); (case ogk => rfl); (case ogv => rfl); k_whole) | (refine' callB_at ?ogF ?ogX ?ogT ?oge ?ogb ?ogi ?ogn ?ogk ?ogg ?ogd ?ogv ?_; (case ogX => k_asm); (case ogT => k_asm); (case oge => k_is); (case ogb => boot_fast); (case ogi => rfl); (case ogn => decide); (case ogg => rfl); (case ogd => rfl); (case ogF => k_asm); (case ogk => rfl); (case ogv => rfl); k_whole)))
  k_with "eval Subscript" => (k_dflt (refine' sub_at ?ogF ?ogk ?ogv ?ogw ?_; (case ogF => k_asm); (case ogk => rfl); (case ogv => rfl); (case ogw => rfl)); k_whole)
  k_with "ite" => (k_closed; k_dflt (first | refine iteT rfl ?_ | refine iteF rfl ?_))
  k_with "isTrue Compare" => (k_dflt (refine' cmp_at ?ogF ?ogk ?ogv ?ogw ?ogb ?_; (case ogF => k_asm); (case ogk => rfl); (case ogv => rfl); (case ogw => rfl); (case ogb => rfl)); k_whole)
  k_with "execs cons" => ((with_reducible refine wpAny_execs_cons ?_); (try dsimp only); (try clear qk ek); (try k_fold))
  k_with "og_mem" => first | with_reducible assumption | (refine memI ?_; with_reducible assumption) | (refine List.mem_append_right _ ?_; k_mem) | (refine List.mem_append_left _ ?_; k_mem)
  k_with "og_neo" => first | exact neLt (by assumption) (by k_mem) | exact neGt (by assumption) (by k_mem) | (refine neN ?_; (try dsimp only); lia)
  k_with "og_ne" => first | assumption | exact Ne.symm (by assumption) | (k_extra "og_neo")
  k_with "og_all" => first | assumption | exact neAll (by assumption) (fun _ h => h) | exact neAll (by assumption) (by intro p hp; k_mem) | exact off1 (by assumption) (by assumption) | exact LCg_lt (by assumption) | exact offL (by assumption) (by k_mem) | exact off_tup (by assumption) (by assumption) (by intro p hp; k_mem) (by k_mem) | (refine List.forall_mem_append.mpr ⟨?_, ?_⟩ <;> k_all) | exact off1 (by assumption) (by lia)
  k_with "og_d" => first | exact dlt hd rfl rfl | exact dlt0 hd rfl rfl | exact dle hd rfl rfl | exact dle0 hd rfl rfl | exact dlq hd rfl rfl | exact dlq0 hd rfl rfl | exact dmk hd rfl | exact drk hd rfl | exact drk0 hd rfl | (simp only [depth_deeper, depth_in1]; lia)
  k_with "og_u" => first | exact dlt hu rfl rfl | exact dlt0 hu rfl rfl | exact dle hu rfl rfl | exact dle0 hu rfl rfl | exact dlq hu rfl rfl | exact dlq0 hu rfl rfl | exact umk hu rfl | exact urk hu rfl | exact urk0 hu rfl | (simp only [units_deeper, units_in1]; lia)
  k_with "og_memb" => (repeat' (first | exact List.forall_mem_nil _ | (intro p hp; k_mem; done) | refine List.forall_mem_append.mpr ⟨?_, ?_⟩ | refine List.forall_mem_cons.mpr ⟨?_, ?_⟩ | k_mem))
  k_with "og_peel" => ((try dsimp +zetaDelta only [List.nil_append, List.cons_append] at *); (repeat (first | clear ledk | clear mk | clear qk | clear ek)))
  k_with "newTuple" => (k_dflt (refine' newtup_le ?ogF ?ogN ?_ ?ogz; (case ogF => k_asm); (case ogN => k_asm); (case ogz => kmk_size)); intro _ _ ledk _ _ l1; (try (dsimp +zetaDelta only at l1; k_lt l1)); (try k_sweep); (try (revert l1; intros)))
  k_with "eval Tuple" => (k_dflt (refine' tup_le ?ogF ?ogN ?ogk ?ogv ?ogz ?_; (case ogN => k_asm); (case ogF => k_asm); (case ogk => rfl); (case ogv => rfl); (case ogz => kmk_size)); k_whole; intro _ _ ledk _ _ l1; (try (dsimp +zetaDelta only at l1; k_lt l1)); (try k_sweep); (try (revert l1; intros)))
  k_with "storeName" => (k_dflt (refine' store_le ?ogF ?ogN ?_ ?oga ?ogb; (case ogF => k_asm); (case ogN => k_asm); (case oga => rfl); (case ogb => rfl)); k_whole; intro _ mk _ _; (try k_sweep))
  k_with "call builtin:list.append" => ((with_reducible show wpAny _ _ (call (Value.builtin _) [Value.ref _, _]) _ _ _); k_dflt (refine' append_le ?ogF ?ogN ?ogU ?_ ?ogz; (case ogF => k_asm); (case ogN => k_asm); (case ogU => k_upd); (case ogz => ((try simp only [List.length_append, List.length_cons, List.length_nil]); lia))); k_whole; intro _ ledk _ _; (try k_sweep))
  k_with "execs cons" => (k_dflt (refine Hold.mkAt (by with_reducible assumption) ?_))
  k_with "subscriptTail Name Slice ref ref" => (k_dflt (refine' tail_L ?ogF ?ogN ?ogm ?ogz ?_ ?ogs; (case ogF => k_asm); (case ogN => k_asm); (case ogm => k_mem); (case ogz => lia); (case ogs => with_unfolding_all rfl); k_whole); intro D' h' F' N' l1 l2; (try dsimp only); (try k_lt l1); (try k_lt2 l2); (try k_sweep); (try (revert D' h' F' N' l1 l2; intros)))
  k_with "subscriptTail" => ((with_reducible show wpAny _ _ (subscriptTail _ _ (Value.ref _) (Value.int _ _)) _ _ _); k_dflt (refine' sub_lv ?ogF ?ogN ?ogg ?ogn ?oglo ?oghi ?ogj ?ogx ?_ ?ogs; (case ogF => k_asm); (case ogN => k_asm); (case ogg => with_reducible assumption); (case ogn => (k_extra "og_memb")); (case oglo => decide); (case oghi => decide); (case ogj => exact rfl); (case ogx => exact rfl); (case ogs => with_unfolding_all rfl); k_whole))
  k_with "subscriptTail" => ((with_reducible show wpAny _ _ (subscriptTail _ _ (Value.ref _) (Value.int 0 _)) _ _ _); k_dflt (refine' sub_hlv ?ogF ?ogN ?ogg ?ogn ?_ ?ogs; (case ogF => k_asm); (case ogN => k_asm); (case ogg => with_reducible assumption); (case ogn => (k_extra "og_memb")); (case ogs => with_unfolding_all rfl); k_whole))
  k_with "call type:dict" => (k_dflt (refine Hold.mk ?_))
  k_with "eval Name" => ((with_reducible show wpAny _ _ (eval (Expr.Name _ _) (envX _ _ _ _ _ _)) _ _ _); k_dflt (refine' nameX_Fg ?ogN ?ogc ?ogm ?ogd ?_ ?oga ?ogb; (case oga => rfl); (case ogb => rfl); (case ogN => k_asm); (case ogc => rfl); (case ogm => assumption); (case ogd => assumption)); k_whole)
  k_with "call ref" => (k_dflt (refine Hold.mk ?_))
  k_with "call type:list" => (k_dflt (refine' list_cpy ?ogF ?ogN ?ogb ?ogi ?ogz ?_; (case ogF => k_asm); (case ogN => k_asm); (case ogb => k_mem); (case ogi => with_reducible assumption); (case ogz => lia); k_whole); intro D' c' h' F' N' l1; (try dsimp only); (try k_lt l1); (try k_sweep); (try (revert D' c' h' F' N' l1; intros)))
  trivial
theorem law_p1 {prog : Program} {w : World} {A : Around} {s : Shared} {G : Heap} {R : Result → Shared → Prop} {l : Nat} {vs : List Value} {ns : List Int} (B : Base w G) (kp : G.StaysIn s.heap) (hl : G.IsList l vs.toArray) (hi : IntsAre vs ns) (hlen : ns.length ≤ 63)
    (tabs : ∀ P ∈ [27, 46, 60, 106], s.heap.get? P = some (tabObj #[]) ∧ G.get? P = none) (hA : A.handled = none) (hd : A.depth ≤ 400) (hu : A.units ≤ 1000)
    (rest : ∀ {g : Heap} {s' : Shared} {L aN a0 a1 a2 cl nN n0 n1 n2 nc : Nat} {m : Str → Option Value} {r x0 : Value} {v0 v1 v2 vc : List Value} {cells : List Int} {fz : List (Addr × Obj)} {oM : Obj} {Q : Flow → Shared → Prop} {E : Value → Shared → Prop},
      Base w g → LawSt g L s'.heap m r aN a0 a1 a2 cl (x0 :: v0) v1 v2 vc nN n0 n1 n2 nc cells (lawSt cells) fz oM → oM.data = .cell none → (∀ P ∈ [27, 46, 60, 106], s'.heap.get? P = some (tabObj #[])) → 0 < cells.length → cells.length ≤ 60 →
      (∀ h' tk', (∀ b o, g.get? b = some o → h'.get? b = some o) → (∀ P ∈ [27, 46, 60, 106], ∃ ps, h'.get? P = some (tabObj ps)) → Q (.ret (.bool true)) { s' with heap := h', toks := tk' }) → LawFrom prog w 3 A L Q E s')
    (h : ∀ h' tk', (∀ b o, G.get? b = some o → h'.get? b = some o) → (∀ P ∈ [27, 46, 60, 106], ∃ ps, h'.get? P = some (tabObj ps)) → R (.ok (.ret (.bool true))) { s with heap := h', toks := tk' }) :
    codeAny (model prog w) A (.call (.ref 111) ⟨[.ref l], []⟩) R s := by
  have hrm : A.depth < recursionLimit := Nat.lt_trans (by first | exact Nat.lt_of_le_of_lt (Nat.le_add_right _ _) (Nat.lt_trans hd (by decide)) | exact Nat.lt_of_le_of_lt hd (by decide) | lia) (show 800 < recursionLimit by decide)
  refine' withLaw (w := w) ?ho0 ?_
  case ho0 => k_is
  intro ho
  obtain ⟨⟨t27, g27⟩, ⟨t46, g46⟩, ⟨t60, g60⟩, ⟨t106, g106⟩⟩ := all4.mp tabs
  refine' enterC (binds := [(Str.ofString "script", .ref l)]) B kp [(27, tabObj #[]), (46, tabObj #[]), (60, tabObj #[]), (106, tabObj #[])] ?_ ho ?_ hrm ?_ ?_ ?_ ?_ ?_ ?_ ?_
  any_goals k_is
  any_goals (exact BindsTo.of_eq rfl)
  any_goals (first | rfl | decide)
  · exact List.forall_mem_cons.mpr ⟨⟨t27, g27⟩, List.forall_mem_cons.mpr ⟨⟨t46, g46⟩, List.forall_mem_cons.mpr ⟨⟨t60, g60⟩, List.forall_mem_cons.mpr ⟨⟨t106, g106⟩, List.forall_mem_nil _⟩⟩⟩⟩
  intro g h₁ tk' cells hg1 hg2 F N Y l1 B'
  obtain ⟨o1, hcs, c1⟩ := CellsAre.one Y
  subst hcs
  replace c1 : o1.data = .cell none := c1
  try simp only [List.cons_append, List.nil_append] at N
  have X := B'.X
  obtain ⟨p, loose, mean, mg, mb, Tp⟩ := B'.T
  have Gg : ∀ b o, G.get? b = some o → g.get? b = some o := fun b o e => hg1 b o (kp b o e) fun q => by
    simp only [List.map_cons, List.map_nil, List.mem_cons, List.not_mem_nil, or_false] at q
    rcases q with q | q | q | q
    · rw [q, g27] at e; cases e
    · rw [q, g46] at e; cases e
    · rw [q, g60] at e; cases e
    · rw [q, g106] at e; cases e
  have hl : g.IsList l vs.toArray := by
    obtain ⟨o, e, r⟩ := hl
    exact ⟨o, Gg _ _ e, r⟩
  have l27 : (27 : Nat) < s.heap.objs.size := Heap.lt_size t27
  have l46 : (46 : Nat) < s.heap.objs.size := Heap.lt_size t46
  have l60 : (60 : Nat) < s.heap.objs.size := Heap.lt_size t60
  have l106 : (106 : Nat) < s.heap.objs.size := Heap.lt_size t106
  clear kp B hg1 hg2 hrm Y tabs t27 t46 t60 t106 g27 g46 g60 g106
  k_steps
  all_goals (try dsimp only)
  · k_extra "og_peel"
    rename_i D'_0 ws'_0 h'_0 hI' hC' hL' l1_0 D'_1 c'_1 h'_1 l1_1 pos h'_2 l'_4 h'_3 l1_2 l'_3 h'_4 l1_3 l'_2 h'_5 l1_4 l'_1 h'_6 l1_5 h'_7 D'_2 c'_2 h'_8 l1_6 l'_0 h'_9 F'_0 N'_0 l1_7
    unfold Hold
    have y1 : (@LT.lt Nat _ D'_1 l'_4) := l1_2.1
    have y2 : (@LT.lt Nat _ l'_4 l'_3) := l1_3.1
    have y3 : (@LT.lt Nat _ l'_3 l'_2) := l1_4.1
    have y4 : (@LT.lt Nat _ l'_2 l'_1) := l1_5.1
    have y5 : (@LT.lt Nat _ l'_1 D'_2) := l1_6.1
    have y6 : (@LT.lt Nat _ D'_2 l'_0) := l1_7.1
    have y0 : (@LT.lt Nat _ (s.heap.objs.size + 1) D'_1) := l1_1.2.1
    have hI9 := hI'
    have hpos9 := pos
    have hle9 := (show (List.take 60 ns).length ≤ 60 by lia)
    refine' call_lawmade B' F'_0 N'_0 (by k_mem) (by k_mem) (by k_mem) (by k_mem) (by k_mem) (by k_mem) hI9 hpos9 hle9 (nd6' y2 y3 y4 y5 y6) (by decide) ?hA ?hd ?hu ?h
    case hA => k_asm
    case hd => k_extra "og_d"
    case hu => k_extra "og_u"
    case h =>
      have N0 := N'_0
      have F0 := F'_0
      clear N'_0 F'_0
      intro h' tk' r vs0 vs1 vs2 fz imm z0 z1 z2 F' N' sub q0 q1 q2 e0 e1 e2 hfz
      have mark : HoldMark := .mk
      have keep : News g s.heap.objs.size _ _ ∧ (∃ m, Fr g s.heap.objs.size _ m) := ⟨N0, ⟨_, F0⟩⟩
      clear N0 F0
      k_steps
      all_goals (try dsimp only)
      unfold Hold
      k_extra "og_peel"
      rename Fr _ _ _ _ => F9
      rename News _ _ _ _ => N9
      obtain ⟨N0, F0⟩ := keep
      obtain ⟨S, tb⟩ := lawSt_mk (cl := D'_1) F0 N0 F9 N9 sub (by k_mem) (by k_mem) (by k_mem) (by k_mem) (by k_mem) (by k_mem) (by k_mem) (by k_mem) (by k_mem) (by k_mem) (by k_mem) (by k_mem) y0 y1 y2 y3 y4 y5 y6 l27 l46 l60 l106 q0 q1 q2 e0 e1 e2 hfz hI9 c1 rfl rfl rfl
      exact LawFrom.out (rest B' S c1 tb hpos9 hle9 fun h' tk' k t => h h' tk' (fun b o e => k b o (Gg b o e)) t) ho
  · k_extra "og_peel"
    rename_i D'_0 ws'_0 h'_0 hI' hC' hL' l1_0 D'_1 c'_1 h'_1 l1_1 pos l'_5 h'_2 l1_x h'_3 l'_4 h'_4 l1_2 l'_3 h'_5 l1_3 l'_2 h'_6 l1_4 l'_1 h'_7 l1_5 h'_8 D'_2 c'_2 h'_9 l1_6 l'_0 h'_10 F'_0 N'_0 l1_7
    unfold Hold
    have y1 : (@LT.lt Nat _ l'_5 l'_4) := l1_2.1
    have y2 : (@LT.lt Nat _ l'_4 l'_3) := l1_3.1
    have y3 : (@LT.lt Nat _ l'_3 l'_2) := l1_4.1
    have y4 : (@LT.lt Nat _ l'_2 l'_1) := l1_5.1
    have y5 : (@LT.lt Nat _ l'_1 D'_2) := l1_6.1
    have y6 : (@LT.lt Nat _ D'_2 l'_0) := l1_7.1
    have y0 : (@LT.lt Nat _ (s.heap.objs.size + 1) l'_5) := l1_x.2.2.1
    have hI9 := (IntsAre.cons 0 (tk' + 1 + 1 + 1) IntsAre.nil)
    have hpos9 := (show 0 < [(0 : Int)].length by decide)
    have hle9 := (show [(0 : Int)].length ≤ 60 by decide)
    refine' call_lawmade B' F'_0 N'_0 (by k_mem) (by k_mem) (by k_mem) (by k_mem) (by k_mem) (by k_mem) hI9 hpos9 hle9 (nd6' y2 y3 y4 y5 y6) (by decide) ?hA ?hd ?hu ?h
    case hA => k_asm
    case hd => k_extra "og_d"
    case hu => k_extra "og_u"
    case h =>
      have N0 := N'_0
      have F0 := F'_0
      clear N'_0 F'_0
      intro h' tk' r vs0 vs1 vs2 fz imm z0 z1 z2 F' N' sub q0 q1 q2 e0 e1 e2 hfz
      have mark : HoldMark := .mk
      have keep : News g s.heap.objs.size _ _ ∧ (∃ m, Fr g s.heap.objs.size _ m) := ⟨N0, ⟨_, F0⟩⟩
      clear N0 F0
      k_steps
      all_goals (try dsimp only)
      unfold Hold
      k_extra "og_peel"
      rename Fr _ _ _ _ => F9
      rename News _ _ _ _ => N9
      obtain ⟨N0, F0⟩ := keep
      obtain ⟨S, tb⟩ := lawSt_mk (cl := l'_5) F0 N0 F9 N9 sub (by k_mem) (by k_mem) (by k_mem) (by k_mem) (by k_mem) (by k_mem) (by k_mem) (by k_mem) (by k_mem) (by k_mem) (by k_mem) (by k_mem) y0 y1 y2 y3 y4 y5 y6 l27 l46 l60 l106 q0 q1 q2 e0 e1 e2 hfz hI9 c1 rfl rfl rfl
      exact LawFrom.out (rest B' S c1 tb hpos9 hle9 fun h' tk' k t => h h' tk' (fun b o e => k b o (Gg b o e)) t) ho
theorem rulesP2 : True := by
  w_top off
  k_with_none
  k_with "spliced" => ((with_reducible show wpAny _ _ (spliced (backTo _ (starEach (_ :: _) _))) _ _ _); k_dflt (refine' args_at ?ogF ?ogk ?ogv ?_; (case ogF => k_asm); (case ogk => rfl); (case ogv => rfl)); k_whole)
  k_with "eval Constant int" => refine int_at ?_
  k_with "eval Constant str" => refine str_at ?_
  k_with "eval Call" => (k_dflt (first | (refine' callK_at ?ogF ?ogX ?ogT ?oge ?ogf ?ogk ?ogg ?ogd ?ogv ?_; (case ogX => k_asm); (case ogT => k_asm); (case oge => k_is); (case ogf => k_is); (case ogg => rfl); (case ogd => rfl); (case ogF => k_asm); (case ogk => rfl); (case ogv => rfl); k_whole) | (refine' callB_at ?ogF ?ogX ?ogT ?oge ?ogb ?ogi ?ogn ?ogk ?ogg ?ogd ?ogv ?_; (case ogX => k_asm); (case ogT => k_asm); (case oge => k_is); (case ogb => boot_fast); (case ogi => rfl); (case ogn => decide); (case ogg => rfl); (case ogd => rfl); (case ogF => k_asm); (case ogk => rfl); (case ogv => rfl); k_whole)))
  k_with "eval Subscript" => (k_dflt (refine' sub_at ?ogF ?ogk ?ogv ?ogw ?_; (case ogF => k_asm); (case ogk => rfl); (case ogv => rfl); (case ogw => rfl)); k_whole)
  k_with "ite" => (k_closed; k_dflt (first | refine iteT rfl ?_ | refine iteF rfl ?_))
  k_with "isTrue Compare" => (k_dflt (refine' cmp_at ?ogF ?ogk ?ogv ?ogw ?ogb ?_; (case ogF => k_asm); (case ogk => rfl); (case ogv => rfl); (case ogw => rfl); (case ogb => rfl)); k_whole)
  k_with "execs cons" => ((with_reducible refine wpAny_execs_cons ?_); (try dsimp only); (try clear qk ek); (try k_fold))
  k_with "og_mem" => first | with_reducible assumption | (refine memI ?_; with_reducible assumption) | (refine List.mem_append_right _ ?_; k_mem) | (refine List.mem_append_left _ ?_; k_mem)
  k_with "og_neo" => first | exact neLt (by assumption) (by k_mem) | exact neGt (by assumption) (by k_mem) | (refine neN ?_; (try dsimp only); lia)
  k_with "og_ne" => first | assumption | exact Ne.symm (by assumption) | (k_extra "og_neo")
  k_with "og_all" => first | assumption | exact neAll (by assumption) (fun _ h => h) | exact neAll (by assumption) (by intro p hp; k_mem) | exact off1 (by assumption) (by assumption) | exact LCg_lt (by assumption) | exact offL (by assumption) (by k_mem) | exact off_tup (by assumption) (by assumption) (by intro p hp; k_mem) (by k_mem) | (refine List.forall_mem_append.mpr ⟨?_, ?_⟩ <;> k_all) | exact off1 (by assumption) (by lia)
  k_with "og_d" => first | exact dlt hd rfl rfl | exact dlt0 hd rfl rfl | exact dle hd rfl rfl | exact dle0 hd rfl rfl | exact dlq hd rfl rfl | exact dlq0 hd rfl rfl | exact dmk hd rfl | exact drk hd rfl | exact drk0 hd rfl | (simp only [depth_deeper, depth_in1]; lia)
  k_with "og_u" => first | exact dlt hu rfl rfl | exact dlt0 hu rfl rfl | exact dle hu rfl rfl | exact dle0 hu rfl rfl | exact dlq hu rfl rfl | exact dlq0 hu rfl rfl | exact umk hu rfl | exact urk hu rfl | exact urk0 hu rfl | (simp only [units_deeper, units_in1]; lia)
  k_with "og_memb" => (repeat' (first | exact List.forall_mem_nil _ | (intro p hp; k_mem; done) | refine List.forall_mem_append.mpr ⟨?_, ?_⟩ | refine List.forall_mem_cons.mpr ⟨?_, ?_⟩ | k_mem))
  k_with "og_peel" => ((try dsimp +zetaDelta only [List.nil_append, List.cons_append] at *); (repeat (first | clear ledk | clear mk | clear qk | clear ek)))
  k_with "og_klt" => skip
  k_with "newTuple" => (k_dflt (refine' newtup_le ?ogF ?ogN ?_ ?ogz; (case ogF => k_asm); (case ogN => k_asm); (case ogz => kmk_size)); intro _ _ ledk _ _ l1; (try skip); (try k_sweep); (try (revert l1; intros)))
  k_with "eval Tuple" => (k_dflt (refine' tup_le ?ogF ?ogN ?ogk ?ogv ?ogz ?_; (case ogN => k_asm); (case ogF => k_asm); (case ogk => rfl); (case ogv => rfl); (case ogz => kmk_size)); k_whole; intro _ _ ledk _ _ l1; (try skip); (try k_sweep); (try (revert l1; intros)))
  k_with "storeName" => (k_dflt (refine' store_le ?ogF ?ogN ?_ ?oga ?ogb; (case ogF => k_asm); (case ogN => k_asm); (case oga => rfl); (case ogb => rfl)); k_whole; intro _ mk _ _; (try k_sweep))
  k_with "call builtin:list.append" => ((with_reducible show wpAny _ _ (call (Value.builtin _) [Value.ref _, _]) _ _ _); k_dflt (refine' append_le ?ogF ?ogN ?ogU ?_ ?ogz; (case ogF => k_asm); (case ogN => k_asm); (case ogU => k_upd); (case ogz => ((try simp only [List.length_append, List.length_cons, List.length_nil]); lia))); k_whole; intro _ ledk _ _; (try k_sweep))
  k_with "execs cons" => (k_dflt (refine Hold.mkAt (by with_reducible assumption) ?_))
  k_with "subscriptTail Name Slice ref ref" => (k_dflt (refine' tail_L ?ogF ?ogN ?ogm ?ogz ?_ ?ogs; (case ogF => k_asm); (case ogN => k_asm); (case ogm => k_mem); (case ogz => lia); (case ogs => with_unfolding_all rfl); k_whole); intro D' h' F' N' l1 l2; (try dsimp only); (try k_lt l1); (try k_lt2 l2); (try k_sweep); (try (revert D' h' F' N' l1 l2; intros)))
  k_with "subscriptTail" => ((with_reducible show wpAny _ _ (subscriptTail _ _ (Value.ref _) (Value.int _ _)) _ _ _); k_dflt (refine' sub_lv ?ogF ?ogN ?ogg ?ogn ?oglo ?oghi ?ogj ?ogx ?_ ?ogs; (case ogF => k_asm); (case ogN => k_asm); (case ogg => with_reducible assumption); (case ogn => (k_extra "og_memb")); (case oglo => decide); (case oghi => decide); (case ogj => exact rfl); (case ogx => exact rfl); (case ogs => with_unfolding_all rfl); k_whole))
  k_with "subscriptTail" => ((with_reducible show wpAny _ _ (subscriptTail _ _ (Value.ref _) (Value.int 0 _)) _ _ _); k_dflt (refine' sub_hlv ?ogF ?ogN ?ogg ?ogn ?_ ?ogs; (case ogF => k_asm); (case ogN => k_asm); (case ogg => with_reducible assumption); (case ogn => (k_extra "og_memb")); (case ogs => with_unfolding_all rfl); k_whole))
  k_with "call type:dict" => (k_dflt (refine Hold.mk ?_))
  k_with "eval Name" => ((with_reducible show wpAny _ _ (eval (Expr.Name _ _) (envX _ _ _ _ _ _)) _ _ _); k_dflt (refine' nameX_Fg ?ogN ?ogc ?ogm ?ogd ?_ ?oga ?ogb; (case oga => rfl); (case ogb => rfl); (case ogN => k_asm); (case ogc => rfl); (case ogm => assumption); (case ogd => assumption)); k_whole)
  k_with "compareOp NotEq ref ref" => (k_dflt (refine Hold.mk ?_))
  k_with "call ref" => (k_dflt (refine Hold.mk ?_))
  trivial
theorem law_p2 {prog : Program} {w : World} {A : Around} {s : Shared} {Q : Flow → Shared → Prop} {E : Value → Shared → Prop} {g : Heap} {L aN a0 a1 a2 cl nN n0 n1 n2 nc : Nat} {m : Str → Option Value} {r x0 : Value} {v0 v1 v2 vc : List Value} {cells : List Int} {st : St} {fz : List (Addr × Obj)} {oM : Obj} {p46 p60 p106 : Array Value}
    (B : Base w g) (S : LawSt g L s.heap m r aN a0 a1 a2 cl (x0 :: v0) v1 v2 vc nN n0 n1 n2 nc cells st fz oM) (e27 : s.heap.get? 27 = some (tabObj #[])) (e46 : s.heap.get? 46 = some (tabObj p46)) (e60 : s.heap.get? 60 = some (tabObj p60)) (e106 : s.heap.get? 106 = some (tabObj p106))
    (hb : st.pre.length ≤ 1000) (hok : st.okR) (hlev : st.lev ≤ 3) (hA : A.handled = none) (hd : A.depth ≤ 400) (hu : A.units ≤ 1000)
    (next : ∀ h' tk' m', LawSt g L h' m' r aN a0 a1 a2 cl (x0 :: v0) v1 v2 vc nN n0 n1 n2 nc cells st fz oM → h'.get? 46 = some (tabObj p46) → h'.get? 60 = some (tabObj p60) → h'.get? 106 = some (tabObj p106) → LawFrom prog w 4 A L Q E { s with heap := h', toks := tk' }) :
    LawFrom prog w 3 A L Q E s := by
  have mark : HoldMark := .mk
  refine' LawFrom.intro ?ho ?_
  case ho => k_is
  intro ho
  simp only [List.drop_succ_cons, List.drop_zero]
  obtain ⟨imm, N, off, tot, mN, m0, m1, m2, mcl, hz, d0, d1, d2, dr⟩ := S.start e27 e46 e60 e106
  have F := fr_names S.F S.mw S.mn S.mc
  have X := B.X
  obtain ⟨p, loose, mean, mg, mb, Tp⟩ := B.T
  have hdr := S.dr
  refine wpAny_execs_cons ?_
  try dsimp only
  k_steps
  all_goals (try dsimp only)
  unfold Hold
  refine' call_within (ps := #[]) (nw0 := []) B ?F ?N ?P (.inl rfl) (List.forall_mem_nil _) hdr hb hA ?hd ?hu ?_
  case F => k_asm
  case N => k_asm
  case P => k_mem
  case hd => k_extra "og_d"
  case hu => k_extra "og_u"
  clear N F
  intro h' tk' a vs n imm' ps' F' N' ma off' sub int' dv
  have nn : ∀ p ∈ imm, p ∈ imm' := fun p hp => sub p (by simp [hp]) fun q => off p hp (by simp [q])
  have mN' := nn _ mN
  have m0' := nn _ m0
  have z0 := d0.length
  rw [toDs_len] at z0
  simp only [List.length_cons] at z0
  replace z0 : v0.length ≤ 10000 := by lia
  replace N' := News.again (News.again (News.again N' (.tail _ ma)) (.tail _ (.tail _ mN'))) (.tail _ (.tail _ (.tail _ m0')))
  try dsimp only
  k_steps
  all_goals (try dsimp only)
  unfold Hold
  k_extra "og_peel"
  rename Fr _ _ _ _ => F9
  rename News _ _ _ _ => N9
  rename_i D9 h9 l1 l2
  rw [pre_bodies, toDs.eq_2] at d0
  cases d0 with
  | cons dx0 d0 =>
  have d0' : Dvs (Lv g imm') v0 (toDs mX (preL st.bodies.flatten)) := d0.mono fun _ _ _ q => q.imp id (nn _)
  refine' ne_LL (na := imm') (nb := imm') F9 N9 ?ma ?mb ?hna ?hnb dv d0' (Nat.le_trans (preb_hgts mX hok hlev) (by decide)) ?hu ?_
  case ma => k_mem
  case mb => k_mem
  case hna => exact (by (k_extra "og_memb"))
  case hnb => exact (by (k_extra "og_memb"))
  case hu => k_extra "og_u"
  k_steps
  all_goals (try dsimp only)
  unfold Hold
  have hs : ∀ p ∈ (46, tabObj p46) :: (60, tabObj p60) :: (106, tabObj p106) :: (L + 1, oM) :: imm, p ∈ imm' := fun p hp => sub p (.tail _ hp) fun e => by
    simp only [List.mem_cons] at hp
    rcases hp with rfl | rfl | rfl | rfl | hp
    · cases e
    · cases e
    · cases e
    · have lt : (27 : Nat) < L := S.lt 27 (by simp)
      have e : (L + 1 : Nat) = 27 := e
      lia
    · exact off p hp (by simp [e])
  have up : ∀ p ∈ imm', h9.get? p.1 = some p.2 := fun p hp => (N9 p (by simp only [List.mem_cons, hp, or_true])).1
  have q46 := up (46, tabObj p46) (hs _ (by simp))
  have q60 := up (60, tabObj p60) (hs _ (by simp))
  have q106 := up (106, tabObj p106) (hs _ (by simp))
  refine LawFrom.out (next _ _ _ (S.next tot F9 N9 (fun p hp => ?_) rfl rfl rfl (up (L + 1, oM) (hs _ (by simp))) S.cM (all4.mpr ⟨⟨_, N9.get (by k_mem), int'⟩, ⟨_, q46, S.int (by simp) e46⟩, ⟨_, q60, S.int (by simp) e60⟩, ⟨_, q106, S.int (by simp) e106⟩⟩)) q46 q60 q106) ho
  have := nn p hp
  simp only [List.mem_cons, this, or_true]
theorem rulesP3 : True := by
  w_top off
  k_with_none
  k_with "spliced" => ((with_reducible show wpAny _ _ (spliced (backTo _ (starEach (_ :: _) _))) _ _ _); k_dflt (refine' args_at ?ogF ?ogk ?ogv ?_; (case ogF => k_asm); (case ogk => rfl); (case ogv => rfl)); k_whole)
  k_with "eval Constant int" => refine int_at ?_
  k_with "eval Constant str" => refine str_at ?_
  k_with "eval Call" => (k_dflt (first | (refine' callK_at ?ogF ?ogX ?ogT ?oge ?ogf ?ogk ?ogg ?ogd ?ogv ?_; (case ogX => k_asm); (case ogT => k_asm); (case oge => k_is); (case ogf => k_is); (case ogg => rfl); (case ogd => rfl); (case ogF => k_asm); (case ogk => rfl); (case ogv => rfl); k_whole) | (refine' callB_at ?ogF ?ogX ?ogT ?oge ?ogb ?ogi ?ogn ?ogk ?ogg ?ogd ?ogv ?_; (case ogX => k_asm); (case ogT => k_asm); (case oge => k_is); (case ogb => boot_fast); (case ogi => rfl); (case ogn => decide); (case ogg => rfl); (case ogd => rfl); (case ogF => k_asm); (case ogk => rfl); (case ogv => rfl); k_whole)))
  k_with "eval Subscript" => (k_dflt (refine' sub_at ?ogF ?ogk ?ogv ?ogw ?_; (case ogF => k_asm); (case ogk => rfl); (case ogv => rfl); (case ogw => rfl)); k_whole)
  k_with "ite" => (k_closed; k_dflt (first | refine iteT rfl ?_ | refine iteF rfl ?_))
  k_with "isTrue Compare" => (k_dflt (refine' cmp_at ?ogF ?ogk ?ogv ?ogw ?ogb ?_; (case ogF => k_asm); (case ogk => rfl); (case ogv => rfl); (case ogw => rfl); (case ogb => rfl)); k_whole)
  k_with "execs cons" => ((with_reducible refine wpAny_execs_cons ?_); (try dsimp only); (try clear qk ek); (try k_fold))
  k_with "og_mem" => first | with_reducible assumption | (refine memI ?_; with_reducible assumption) | (refine List.mem_append_right _ ?_; k_mem) | (refine List.mem_append_left _ ?_; k_mem)
  k_with "og_neo" => first | exact neLt (by assumption) (by k_mem) | exact neGt (by assumption) (by k_mem) | (refine neN ?_; (try dsimp only); lia)
  k_with "og_ne" => first | assumption | exact Ne.symm (by assumption) | (k_extra "og_neo")
  k_with "og_all" => first | assumption | exact neAll (by assumption) (fun _ h => h) | exact neAll (by assumption) (by intro p hp; k_mem) | exact off1 (by assumption) (by assumption) | exact LCg_lt (by assumption) | exact offL (by assumption) (by k_mem) | exact off_tup (by assumption) (by assumption) (by intro p hp; k_mem) (by k_mem) | (refine List.forall_mem_append.mpr ⟨?_, ?_⟩ <;> k_all) | exact off1 (by assumption) (by lia)
  k_with "og_d" => first | exact dlt hd rfl rfl | exact dlt0 hd rfl rfl | exact dle hd rfl rfl | exact dle0 hd rfl rfl | exact dlq hd rfl rfl | exact dlq0 hd rfl rfl | exact dmk hd rfl | exact drk hd rfl | exact drk0 hd rfl | (simp only [depth_deeper, depth_in1]; lia)
  k_with "og_u" => first | exact dlt hu rfl rfl | exact dlt0 hu rfl rfl | exact dle hu rfl rfl | exact dle0 hu rfl rfl | exact dlq hu rfl rfl | exact dlq0 hu rfl rfl | exact umk hu rfl | exact urk hu rfl | exact urk0 hu rfl | (simp only [units_deeper, units_in1]; lia)
  k_with "og_memb" => (repeat' (first | exact List.forall_mem_nil _ | (intro p hp; k_mem; done) | refine List.forall_mem_append.mpr ⟨?_, ?_⟩ | refine List.forall_mem_cons.mpr ⟨?_, ?_⟩ | k_mem))
  k_with "og_peel" => ((try dsimp +zetaDelta only [List.nil_append, List.cons_append] at *); (repeat (first | clear ledk | clear mk | clear qk | clear ek)))
  k_with "og_klt" => skip
  k_with "newTuple" => (k_dflt (refine' newtup_le ?ogF ?ogN ?_ ?ogz; (case ogF => k_asm); (case ogN => k_asm); (case ogz => kmk_size)); intro _ _ ledk _ _ l1; (try skip); (try k_sweep); (try (revert l1; intros)))
  k_with "eval Tuple" => (k_dflt (refine' tup_le ?ogF ?ogN ?ogk ?ogv ?ogz ?_; (case ogN => k_asm); (case ogF => k_asm); (case ogk => rfl); (case ogv => rfl); (case ogz => kmk_size)); k_whole; intro _ _ ledk _ _ l1; (try skip); (try k_sweep); (try (revert l1; intros)))
  k_with "storeName" => (k_dflt (refine' store_le ?ogF ?ogN ?_ ?oga ?ogb; (case ogF => k_asm); (case ogN => k_asm); (case oga => rfl); (case ogb => rfl)); k_whole; intro _ mk _ _; (try k_sweep))
  k_with "call builtin:list.append" => ((with_reducible show wpAny _ _ (call (Value.builtin _) [Value.ref _, _]) _ _ _); k_dflt (refine' append_le ?ogF ?ogN ?ogU ?_ ?ogz; (case ogF => k_asm); (case ogN => k_asm); (case ogU => k_upd); (case ogz => ((try simp only [List.length_append, List.length_cons, List.length_nil]); lia))); k_whole; intro _ ledk _ _; (try k_sweep))
  k_with "execs cons" => (k_dflt (refine Hold.mkAt (by with_reducible assumption) ?_))
  k_with "subscriptTail Name Slice ref ref" => (k_dflt (refine' tail_L ?ogF ?ogN ?ogm ?ogz ?_ ?ogs; (case ogF => k_asm); (case ogN => k_asm); (case ogm => k_mem); (case ogz => lia); (case ogs => with_unfolding_all rfl); k_whole); intro D' h' F' N' l1 l2; (try dsimp only); (try k_lt l1); (try k_lt2 l2); (try k_sweep); (try (revert D' h' F' N' l1 l2; intros)))
  k_with "subscriptTail" => ((with_reducible show wpAny _ _ (subscriptTail _ _ (Value.ref _) (Value.int _ _)) _ _ _); k_dflt (refine' sub_lv ?ogF ?ogN ?ogg ?ogn ?oglo ?oghi ?ogj ?ogx ?_ ?ogs; (case ogF => k_asm); (case ogN => k_asm); (case ogg => with_reducible assumption); (case ogn => (k_extra "og_memb")); (case oglo => decide); (case oghi => decide); (case ogj => exact rfl); (case ogx => exact rfl); (case ogs => with_unfolding_all rfl); k_whole))
  k_with "subscriptTail" => ((with_reducible show wpAny _ _ (subscriptTail _ _ (Value.ref _) (Value.int 0 _)) _ _ _); k_dflt (refine' sub_hlv ?ogF ?ogN ?ogg ?ogn ?_ ?ogs; (case ogF => k_asm); (case ogN => k_asm); (case ogg => with_reducible assumption); (case ogn => (k_extra "og_memb")); (case ogs => with_unfolding_all rfl); k_whole))
  k_with "call type:dict" => (k_dflt (refine Hold.mk ?_))
  k_with "eval Name" => ((with_reducible show wpAny _ _ (eval (Expr.Name _ _) (envX _ _ _ _ _ _)) _ _ _); k_dflt (refine' nameX_Fg ?ogN ?ogc ?ogm ?ogd ?_ ?oga ?ogb; (case oga => rfl); (case ogb => rfl); (case ogN => k_asm); (case ogc => rfl); (case ogm => assumption); (case ogd => assumption)); k_whole)
  k_with "call ref" => (k_dflt (refine Hold.mk ?_))
  k_with "compareOp NotEq ref ref" => (k_dflt (refine Hold.mk ?_))
  trivial
noncomputable def ForJ (g : Heap) (r : Value) (aN cl : Nat) (base : List (Addr × Obj)) (i : Nat) (m₁ : Str → Option Value) (news₁ : List (Addr × Obj)) : Prop :=
  ∃ ps imm, news₁ = (60, tabObj ps) :: imm ∧ (∀ p ∈ base, p ∈ imm) ∧ (∀ p ∈ imm, p.1 ≠ 60) ∧ TabN g imm ps 43 36 qualW ∧ m₁ (Str.ofString "whole") = some r ∧ m₁ (Str.ofString "notes") = some (.ref aN) ∧ m₁ (Str.ofString "cells") = some (.ref cl)
inductive PrsAt (P : Addr → Obj → Prop) (fz : List (Addr × Obj)) (m : Str) (vs : List Value) (ss : List St) (i : Nat) : Prop
  | mk (p q : Addr) (x : Value) (n nq : Nat) (rvs : List Value) (s : St) (h1 : vs[i]? = some (.ref p)) (h2 : s ∈ ss) (h3 : P p (tupOf [x, .ref q] n)) (h4 : Dv P x (s.toD m)) (h5 : (q, listOf rvs.toArray nq) ∈ fz) (h6 : Dvs P rvs (s.refs.map (Rf.toD m)))
theorem Prs.at {P : Addr → Obj → Prop} {fz : List (Addr × Obj)} {m : Str} {vs : List Value} {ss : List St} (i : Nat) (h : Prs P fz m vs ss) : i < vs.length → PrsAt P fz m vs ss i := by
  refine Prs.rec (motive := fun vs ss _ => ∀ i, i < vs.length → PrsAt P fz m vs ss i) (fun i h => absurd h (Nat.not_lt_zero _)) (fun a b c d _ ih i h => ?_) h i
  cases i with
  | zero => exact ⟨_, _, _, _, _, _, _, rfl, .head _, a, b, c, d⟩
  | succ i =>
    obtain ⟨p, q, x, n, nq, rvs, s, h1, h2, h3, h4, h5, h6⟩ := ih i (Nat.lt_of_succ_lt_succ h)
    exact ⟨p, q, x, n, nq, rvs, s, h1, .tail _ h2, h3, h4, h5, h6⟩
theorem law_p3 {prog : Program} {w : World} {A : Around} {s : Shared} {Q : Flow → Shared → Prop} {E : Value → Shared → Prop} {g : Heap} {L aN a0 a1 a2 cl nN n0 n1 n2 nc : Nat} {m : Str → Option Value} {r : Value} {v0 v1 v2 vc : List Value} {cells : List Int} {st : St} {fz : List (Addr × Obj)} {oM : Obj} {p27 p46 p106 : Array Value}
    (B : Base w g) (S : LawSt g L s.heap m r aN a0 a1 a2 cl v0 v1 v2 vc nN n0 n1 n2 nc cells st fz oM) (e27 : s.heap.get? 27 = some (tabObj p27)) (e46 : s.heap.get? 46 = some (tabObj p46)) (e60 : s.heap.get? 60 = some (tabObj #[])) (e106 : s.heap.get? 106 = some (tabObj p106))
    (hb : st.pre.length ≤ 1000) (hok : st.okR) (hlev : st.lev ≤ 3) (hA : A.handled = none) (hd : A.depth ≤ 400) (hu : A.units ≤ 1000)
    (next : ∀ h' tk' m', LawSt g L h' m' r aN a0 a1 a2 cl v0 v1 v2 vc nN n0 n1 n2 nc cells st fz oM → h'.get? 46 = some (tabObj p46) → h'.get? 106 = some (tabObj p106) → LawFrom prog w 5 A L Q E { s with heap := h', toks := tk' }) :
    LawFrom prog w 4 A L Q E s := by
  have mark : HoldMark := .mk
  refine' LawFrom.intro ?ho ?_
  case ho => k_is
  intro ho
  simp only [List.drop_succ_cons, List.drop_zero]
  obtain ⟨imm, N, off, tot, mN, m0, m1, m2, mcl, hz, d0, d1, d2, dr⟩ := S.start e27 e46 e60 e106
  have F := fr_names S.F S.mw S.mn S.mc
  have X := B.X
  obtain ⟨p, loose, mean, mg, mb, Tp⟩ := B.T
  replace N := News.again N (p := (aN, listOf [.ref a0, .ref a1, .ref a2].toArray nN)) (by simp only [List.mem_cons, mN, or_true])
  refine wpAny_execs_cons ?_
  refine' for_pairs (g := g) ?hh ?hxi ?hxc ?hp ?_ ?hs
  case hh => k_asm
  case hxi => rfl
  case hxc => rfl
  case hp => rfl
  case hs => intro x; rfl
  k_steps
  all_goals (try dsimp only)
  k_extra "og_peel"
  rename Fr _ _ _ _ => F9
  rename News _ _ _ _ => N9
  refine ⟨a2, n2, v2, _, (60, tabObj #[]) :: (27, tabObj p27) :: (46, tabObj p46) :: (106, tabObj p106) :: (L + 1, oM) :: imm, ForJ g r aN cl ((27, tabObj p27) :: (46, tabObj p46) :: (106, tabObj p106) :: (L + 1, oM) :: imm), rfl, F9, fun p hp => N9 p ?_, ⟨#[], _, rfl, fun _ h => h, ?_, .inl rfl, rfl, rfl, rfl⟩, ?_, ?_, ?fin, ?step⟩
  · simp only [List.mem_cons] at hp ⊢
    rcases hp with hp | hp | hp | hp | hp | hp <;> simp only [hp, true_or, or_true]
  · have lt : (60 : Nat) < L := S.lt 60 (by simp)
    refine List.forall_mem_cons.mpr ⟨by simp, List.forall_mem_cons.mpr ⟨by simp, List.forall_mem_cons.mpr ⟨by simp, List.forall_mem_cons.mpr ⟨fun e => ?_, fun p hp e => off p hp (by simp [e])⟩⟩⟩⟩
    have e : (L + 1 : Nat) = 60 := e
    lia
  · rw [d2.length, post_len]; lia
  · rintro i m' news ⟨ps, immi, rfl, hbase, off60, T60, w1, w2, w3⟩
    have nn : ∀ p ∈ imm, p ∈ (60, tabObj ps) :: immi := fun p hp => .tail _ (hbase _ (by simp only [List.mem_cons, hp, or_true]))
    refine ⟨nn _ m2, fun hi => ?_⟩
    obtain ⟨p, q, x, n, nq, rvs, s', h1, h2, h3, h4, h5, h6⟩ := d2.at i hi
    exact ⟨p, x, .ref q, n, h1, h3.imp id (nn _)⟩
  case fin =>
    rintro h' tk m' news' F' N' ⟨ps, immi, rfl, hbase, off60, T60, w1, w2, w3⟩
    clear F9 N9
    k_steps
    all_goals (try dsimp only)
    unfold Hold
    have N9 := N'
    have up : ∀ p ∈ (27, tabObj p27) :: (46, tabObj p46) :: (106, tabObj p106) :: (L + 1, oM) :: imm, h'.get? p.1 = some p.2 := fun p hp => (N' p (.tail _ (hbase p hp))).1
    have q27 := up (27, tabObj p27) (by simp)
    have q46 := up (46, tabObj p46) (by simp)
    have q106 := up (106, tabObj p106) (by simp)
    exact LawFrom.out (next _ _ _ (S.next tot F' N' (fun p hp => .tail _ (hbase _ (by simp only [List.mem_cons, hp, or_true]))) w1 w2 w3 (up (L + 1, oM) (by simp)) S.cM (all4.mpr ⟨⟨_, q27, S.int (by simp) e27⟩, ⟨_, q46, S.int (by simp) e46⟩, ⟨_, N'.get (.head _), T60.intAt⟩, ⟨_, q106, S.int (by simp) e106⟩⟩)) q46 q106) ho
  case step =>
    intro i t x0 x1 k m₁ news₁ I oI h tk E' hi ht hJ F N offI hdI
    obtain ⟨ps, immi, rfl, hbase, off60, T60, w1, w2, w3⟩ := hJ
    obtain ⟨pp, q, x, n, nq, rvs, s', h1, h2, h3, h4, h5, h6⟩ := d2.at i (List.getElem?_eq_some_iff.mp hi).1
    have nn : ∀ p ∈ imm, p ∈ immi := fun p hp => hbase _ (by simp only [List.mem_cons, hp, or_true])
    rw [hi] at h1
    cases h1
    have e1 := lv_get F N (fun p hp => .tail _ hp) ht
    have e2 := lv_get F N (fun p hp => .tail _ hp) (h3.imp id fun z => .tail _ (nn _ z))
    rw [e1] at e2
    injection e2 with e2
    injection e2 with _ _ e2
    injection e2 with e2 _
    have e2 := congrArg Array.toList e2
    simp only [List.toArray] at e2
    injection e2 with e2 e3
    injection e3 with e3 _
    subst e2 e3
    have hI60 : (@Ne Nat I 60) := fun e => offI (60, tabObj ps) (.head _) e.symm
    have offI' : ∀ p ∈ immi, p.1 ≠ I := fun p hp => offI p (.tail _ hp)
    clear mark next S hi ht hz tot off d0 d1 d2 N9 F9 e1 ho mN m0 m1 m2 mcl dr e27 e46 e60 e106 hb
    have hx : Dv (Lv g immi) x0 (s'.toD mX) := h4.mono fun _ _ _ z => z.imp id (nn _)
    have hq := nn _ h5
    have hr : Dvs (Lv g immi) rvs (s'.refs.map (Rf.toD mX)) := h6.mono fun _ _ _ z => z.imp id (nn _)
    have ok' := post_ok st hok s' h2
    have lev' := Nat.le_trans (post_lev st s' h2) hlev
    clear h3 h4 h5 h6 hok h2 nn offI hlev
    k_steps
    all_goals (try dsimp only)
    unfold Hold
    refine' call_refsw (nw0 := immi) (mk := mX) (st := s') (I := I) (oI := oI) B ?F ?N ?P T60 ?hn ?hI hI60 hdI ?hv ok' ?hA ?d ?u ?_
    case F => k_asm
    case N => k_asm
    case P => k_mem
    case hn => exact (by (k_extra "og_memb"))
    case hI => k_mem
    case hv =>
      k_extra "og_peel"
      rename Fr _ _ _ _ => F9
      rename News _ _ _ _ => N9
      exact dv_up F9 N9 (fun p hp => .tail _ (.tail _ hp)) hx
    case hA => k_asm
    case d => k_extra "og_d"
    case u => k_extra "og_u"
    k_extra "og_peel"
    rename News _ _ _ _ => N0
    clear N0
    k_extra "og_peel"
    rename Fr _ _ _ _ => F0
    clear F0
    intro h' tk' a vs n' imm' ps' F' N' ma off1 offI2 sub T' dv
    have nn : ∀ p ∈ immi, p ∈ imm' := fun p hp => sub p (.tail _ (.tail _ hp)) (off60 p hp) (offI' p hp)
    replace hbase : ∀ p ∈ (27, tabObj p27) :: (46, tabObj p46) :: (106, tabObj p106) :: (L + 1, oM) :: imm, p ∈ imm' := fun p hp => nn _ (hbase p hp)
    replace hx : Dv (Lv g imm') x0 (s'.toD mX) := hx.mono fun _ _ _ z => z.imp id (nn _)
    replace hr : Dvs (Lv g imm') rvs (s'.refs.map (Rf.toD mX)) := hr.mono fun _ _ _ z => z.imp id (nn _)
    have hq' := nn _ hq
    clear hq nn sub off60 offI' T60
    k_steps
    all_goals (try dsimp only)
    unfold Hold
    refine' ne_LL (na := imm') (nb := imm') ?F ?N ?ma ?mb ?hna ?hnb dv hr (Nat.le_trans (rf_hgts mX ok') (by decide)) ?hu ?_
    case F => k_asm
    case N => k_asm
    case ma => k_mem
    case mb => k_mem
    case hna => exact (by (k_extra "og_memb"))
    case hnb => exact (by (k_extra "og_memb"))
    case hu => k_extra "og_u"
    have fin : ∀ {h9 : Heap} {tk9 : Nat} {m9 : Str → Option Value} {l9 : List (Addr × Obj)}, Fr g L h9 m9 → News g L h9 l9 → (∀ p ∈ (I, oI) :: (60, tabObj ps') :: imm', p ∈ l9) → m9 (Str.ofString "whole") = some r → m9 (Str.ofString "notes") = some (.ref aN) → m9 (Str.ofString "cells") = some (.ref cl) →
        ForEnd g L { s with heap := h, toks := tk } I oI (ForJ g r aN cl ((27, tabObj p27) :: (46, tabObj p46) :: (106, tabObj p106) :: (L + 1, oM) :: imm) (i + 1)) .next { s with heap := h9, toks := tk9 } := fun F9 N9 hs y1 y2 y3 =>
      ⟨rfl, _, _, _, (60, tabObj ps') :: imm', rfl, F9, fun p hp => N9 p (hs p hp), List.forall_mem_cons.mpr ⟨Ne.symm hI60, offI2⟩, ps', imm', rfl, hbase, off1, T', y1, y2, y3⟩
    clear ma off1 offI2 hbase T' dv hr hq' hdI
    cases s' with
    | mv b c =>
      have hx0 := hx
      rw [St.toD.eq_1] at hx
      unfold sS at hx
      obtain ⟨av, tv, vs', nv, rfl, hva⟩ := dvh hx
      k_steps
      all_goals (try dsimp only)
      unfold Hold
      rename (_ == sysModules) = false => hd1
      refine' call_br (nw0 := imm') B ?Fa ?Na ?hna hx0 ?Aa ?da ?ua ?_
      case Fa => k_asm
      case Na => k_asm
      case hna => exact (by (k_extra "og_memb"))
      case Aa => k_asm
      case da => k_extra "og_d"
      case ua => k_extra "og_u"
      k_extra "og_peel"
      rename News _ _ _ _ => N0
      clear N0
      k_extra "og_peel"
      rename Fr _ _ _ _ => F0
      clear F0
      intro h9 tk9 D9 kvs o9 imm2 F' N' hD hdo hrows
      try simp only [List.cons_append, List.nil_append] at N'
      k_steps
      all_goals (try dsimp only)
      unfold Hold
      rename Obj.IsDictOf (PySem.strKind _ _) _ [] => hs1
      refine' ne_rowsL (na := imm2) (nb := []) ?F ?N ?ma ?mb hD hd1 hdo hs1 ?hna ?hnb hrows .nil (by simp [St.due]) (by simp [St.due]) ?hu ?_
      case hnb => exact List.forall_mem_nil _
      case F => k_asm
      case N => k_asm
      case ma => k_mem
      case mb => k_mem
      case hna => exact (by (k_extra "og_memb"))
      case hu => k_extra "og_u"
      k_steps
      all_goals (try dsimp only)
      k_extra "og_peel"
      rename Fr _ _ _ _ => F9
      rename News _ _ _ _ => N9
      exact fin F9 N9 (by (k_extra "og_memb")) w1 w2 w3
    | iff b c x y =>
      have hx0 := hx
      rw [St.toD.eq_2] at hx
      unfold sS at hx
      obtain ⟨av, tv, vs', nv, rfl, hva⟩ := dvh hx
      k_steps
      all_goals (try dsimp only)
      unfold Hold
      rename (_ == sysModules) = false => hd1
      refine' call_br (nw0 := imm') B ?Fb ?Nb ?hnb hx0 ?Ab ?db ?ub ?_
      case Fb => k_asm
      case Nb => k_asm
      case hnb => exact (by (k_extra "og_memb"))
      case Ab => k_asm
      case db => k_extra "og_d"
      case ub => k_extra "og_u"
      k_extra "og_peel"
      rename News _ _ _ _ => N0
      clear N0
      k_extra "og_peel"
      rename Fr _ _ _ _ => F0
      clear F0
      intro h9 tk9 D9 kvs o9 imm2 F' N' hD hdo hrows
      try simp only [List.cons_append, List.nil_append] at N'
      k_steps
      all_goals (try dsimp only)
      unfold Hold
      rename Obj.IsDictOf (PySem.strKind _ _) _ [] => hs1
      refine' ne_rowsL (na := imm2) (nb := []) ?F ?N ?ma ?mb hD hd1 hdo hs1 ?hna ?hnb hrows .nil (by simp [St.due]) (by simp [St.due]) ?hu ?_
      case hnb => exact List.forall_mem_nil _
      case F => k_asm
      case N => k_asm
      case ma => k_mem
      case mb => k_mem
      case hna => exact (by (k_extra "og_memb"))
      case hu => k_extra "og_u"
      k_steps
      all_goals (try dsimp only)
      k_extra "og_peel"
      rename Fr _ _ _ _ => F9
      rename News _ _ _ _ => N9
      exact fin F9 N9 (by (k_extra "og_memb")) w1 w2 w3
    | ev b x y z =>
      have hx0 := hx
      rw [St.toD.eq_3] at hx
      unfold sS at hx
      obtain ⟨av, tv, vs', nv, rfl, hva⟩ := dvh hx
      k_steps
      all_goals (try dsimp only)
      unfold Hold
      rename (_ == sysModules) = false => hd1
      refine' call_br (nw0 := imm') B ?Fc ?Nc ?hnc hx0 ?Ac ?dc ?uc ?_
      case Fc => k_asm
      case Nc => k_asm
      case hnc => exact (by (k_extra "og_memb"))
      case Ac => k_asm
      case dc => k_extra "og_d"
      case uc => k_extra "og_u"
      k_extra "og_peel"
      rename News _ _ _ _ => N0
      clear N0
      k_extra "og_peel"
      rename Fr _ _ _ _ => F0
      clear F0
      intro h9 tk9 D9 kvs o9 imm2 F' N' hD hdo hrows
      try simp only [List.cons_append, List.nil_append] at N'
      k_steps
      all_goals (try dsimp only)
      unfold Hold
      rename Obj.IsDictOf (PySem.strKind _ _) _ [] => hs1
      refine' ne_rowsL (na := imm2) (nb := []) ?F ?N ?ma ?mb hD hd1 hdo hs1 ?hna ?hnb hrows .nil (by simp [St.due]) (by simp [St.due]) ?hu ?_
      case hnb => exact List.forall_mem_nil _
      case F => k_asm
      case N => k_asm
      case ma => k_mem
      case mb => k_mem
      case hna => exact (by (k_extra "og_memb"))
      case hu => k_extra "og_u"
      k_steps
      all_goals (try dsimp only)
      k_extra "og_peel"
      rename Fr _ _ _ _ => F9
      rename News _ _ _ _ => N9
      exact fin F9 N9 (by (k_extra "og_memb")) w1 w2 w3
    | pf b c e x =>
      have hx0 := hx
      rw [St.toD.eq_4] at hx
      unfold sS at hx
      obtain ⟨av, tv, vs', nv, rfl, hva⟩ := dvh hx
      k_steps
      all_goals (try dsimp only)
      unfold Hold
      rename (_ == sysModules) = false => hd1
      refine' call_br (nw0 := imm') B ?Fd ?Nd ?hnd hx0 ?Ad ?dd ?ud ?_
      case Fd => k_asm
      case Nd => k_asm
      case hnd => exact (by (k_extra "og_memb"))
      case Ad => k_asm
      case dd => k_extra "og_d"
      case ud => k_extra "og_u"
      k_extra "og_peel"
      rename News _ _ _ _ => N0
      clear N0
      k_extra "og_peel"
      rename Fr _ _ _ _ => F0
      clear F0
      intro h9 tk9 D9 kvs o9 imm2 F' N' hD hdo hrows
      try simp only [List.cons_append, List.nil_append] at N'
      k_steps
      all_goals (try dsimp only)
      unfold Hold
      rename Obj.IsDictOf (PySem.strKind _ _) _ [] => hs1
      refine' ne_rowsL (na := imm2) (nb := []) ?F ?N ?ma ?mb hD hd1 hdo hs1 ?hna ?hnb hrows .nil (by simp [St.due]) (by simp [St.due]) ?hu ?_
      case hnb => exact List.forall_mem_nil _
      case F => k_asm
      case N => k_asm
      case ma => k_mem
      case mb => k_mem
      case hna => exact (by (k_extra "og_memb"))
      case hu => k_extra "og_u"
      k_steps
      all_goals (try dsimp only)
      k_extra "og_peel"
      rename Fr _ _ _ _ => F9
      rename News _ _ _ _ => N9
      exact fin F9 N9 (by (k_extra "og_memb")) w1 w2 w3
    | br kk b x y =>
      by_cases h0 : kk = 0
      · subst h0
        have hx0 := hx
        rw [St.toD.eq_5, brHead0] at hx
        simp only [sS, List.cons_append, List.nil_append] at hx
        obtain ⟨av, vs', nv, hva, hvs⟩ := dvt hx
        obtain ⟨u0, u1, u2, u3, u4, u5, q0, q1, q2, q3, q4, q5⟩ := dvs6 hvs
        obtain ⟨t0, rfl⟩ := dvstr q0
        obtain ⟨wv, ws, nw, hvw, hws⟩ := dvt q5
        obtain ⟨z0, z1, y0, y1⟩ := dvs2 hws
        obtain ⟨p0, pv0, pm0, hp0, hq0⟩ := dvt y0
        obtain ⟨c0, b0, f0, g0⟩ := dvs2 hq0
        obtain ⟨p1, pv1, pm1, hp1, hq1⟩ := dvt y1
        obtain ⟨c1, b1, f1, g1⟩ := dvs2 hq1
        obtain ⟨t1, rfl⟩ := dvstr f0
        obtain ⟨t2, rfl⟩ := dvstr f1
        have hva : Lv g imm' av (tupOf _ nv) := hva
        clear hx hvs hws hq0 hq1
        k_steps
        all_goals (try dsimp only)
        unfold Hold
        refine' call_dict (nw0 := imm') (its := [.ref p0, .ref p1]) (kps := [(Str.ofString "end", b0), (Str.ofString "not end", b1)]) B ?Fe ?Ne hvw ?hne ?Ae (by simp) rfl ?hPe ?_
        case Fe => k_asm
        case Ne => k_asm
        case hne => exact (by (k_extra "og_memb"))
        case Ae => k_asm
        case hPe =>
          intro i v hv
          match i, hv with
          | 0, hv => cases hv; exact ⟨p0, _, t1, b0, _, rfl, hp0, rfl⟩
          | 1, hv => cases hv; exact ⟨p1, _, t2, b1, _, rfl, hp1, rfl⟩
        k_extra "og_peel"
        rename News _ _ _ _ => N0
        clear N0
        k_extra "og_peel"
        rename Fr _ _ _ _ => F0
        clear F0
        intro h8 tk8 D8 o8 F' N' hD8 hs1
        k_steps
        all_goals (try dsimp only)
        unfold Hold
        refine' call_br (nw0 := imm') B ?Fex ?Nex ?hnex hx0 ?Aex ?dex ?uex ?_
        case Fex => k_asm
        case Nex => k_asm
        case hnex => exact (by (k_extra "og_memb"))
        case Aex => k_asm
        case dex => k_extra "og_d"
        case uex => k_extra "og_u"
        k_extra "og_peel"
        rename News _ _ _ _ => N0
        clear N0
        k_extra "og_peel"
        rename Fr _ _ _ _ => F0
        clear F0
        intro h9 tk9 D9 kvs o9 imm2 F' N' hD hdo hrows
        try simp only [List.cons_append, List.nil_append] at N'
        k_steps
        all_goals (try dsimp only)
        unfold Hold
        refine' ne_rowsL (na := imm2) (nb := imm') (rs := (St.br 0 b x y).due mX) ?F ?N ?ma ?mb hD hD8 hdo hs1 ?hna ?hnb hrows (.cons g0 (.cons g1 .nil)) (due_nodup mX _) (due_hgt mX ok' lev') ?hu ?_
        case F => k_asm
        case N => k_asm
        case ma => k_mem
        case mb => k_mem
        case hna => exact (by (k_extra "og_memb"))
        case hnb => exact (by (k_extra "og_memb"))
        case hu => k_extra "og_u"
        k_steps
        all_goals (try dsimp only)
        k_extra "og_peel"
        rename Fr _ _ _ _ => F9
        rename News _ _ _ _ => N9
        exact fin F9 N9 (by (k_extra "og_memb")) w1 w2 w3
      · by_cases h1 : kk = 1
        · subst h1
          have hx0 := hx
          rw [St.toD.eq_5, brHead1] at hx
          simp only [sS, List.cons_append, List.nil_append] at hx
          obtain ⟨av, vs', nv, hva, hvs⟩ := dvt hx
          obtain ⟨u0, u1, u2, u3, q0, q1, q2, q3⟩ := dvs4 hvs
          obtain ⟨t0, rfl⟩ := dvstr q0
          obtain ⟨wv, ws, nw, hvw, hws⟩ := dvt q3
          obtain ⟨z0, z1, y0, y1⟩ := dvs2 hws
          obtain ⟨p0, pv0, pm0, hp0, hq0⟩ := dvt y0
          obtain ⟨c0, b0, f0, g0⟩ := dvs2 hq0
          obtain ⟨p1, pv1, pm1, hp1, hq1⟩ := dvt y1
          obtain ⟨c1, b1, f1, g1⟩ := dvs2 hq1
          obtain ⟨t1, rfl⟩ := dvstr f0
          obtain ⟨t2, rfl⟩ := dvstr f1
          have hva : Lv g imm' av (tupOf _ nv) := hva
          clear hx hvs hws hq0 hq1
          k_steps
          all_goals (try dsimp only)
          unfold Hold
          refine' call_dict (nw0 := imm') (its := [.ref p0, .ref p1]) (kps := [(Str.ofString "end", b0), (Str.ofString "not end", b1)]) B ?Ff ?Nf hvw ?hnf ?Af (by simp) rfl ?hPf ?_
          case Ff => k_asm
          case Nf => k_asm
          case hnf => exact (by (k_extra "og_memb"))
          case Af => k_asm
          case hPf =>
            intro i v hv
            match i, hv with
            | 0, hv => cases hv; exact ⟨p0, _, t1, b0, _, rfl, hp0, rfl⟩
            | 1, hv => cases hv; exact ⟨p1, _, t2, b1, _, rfl, hp1, rfl⟩
          k_extra "og_peel"
          rename News _ _ _ _ => N0
          clear N0
          k_extra "og_peel"
          rename Fr _ _ _ _ => F0
          clear F0
          intro h8 tk8 D8 o8 F' N' hD8 hs1
          k_steps
          all_goals (try dsimp only)
          unfold Hold
          refine' call_br (nw0 := imm') B ?Ffx ?Nfx ?hnfx hx0 ?Afx ?dfx ?ufx ?_
          case Ffx => k_asm
          case Nfx => k_asm
          case hnfx => exact (by (k_extra "og_memb"))
          case Afx => k_asm
          case dfx => k_extra "og_d"
          case ufx => k_extra "og_u"
          k_extra "og_peel"
          rename News _ _ _ _ => N0
          clear N0
          k_extra "og_peel"
          rename Fr _ _ _ _ => F0
          clear F0
          intro h9 tk9 D9 kvs o9 imm2 F' N' hD hdo hrows
          try simp only [List.cons_append, List.nil_append] at N'
          k_steps
          all_goals (try dsimp only)
          unfold Hold
          refine' ne_rowsL (na := imm2) (nb := imm') (rs := (St.br 1 b x y).due mX) ?F ?N ?ma ?mb hD hD8 hdo hs1 ?hna ?hnb hrows (.cons g0 (.cons g1 .nil)) (due_nodup mX _) (due_hgt mX ok' lev') ?hu ?_
          case F => k_asm
          case N => k_asm
          case ma => k_mem
          case mb => k_mem
          case hna => exact (by (k_extra "og_memb"))
          case hnb => exact (by (k_extra "og_memb"))
          case hu => k_extra "og_u"
          k_steps
          all_goals (try dsimp only)
          k_extra "og_peel"
          rename Fr _ _ _ _ => F9
          rename News _ _ _ _ => N9
          exact fin F9 N9 (by (k_extra "og_memb")) w1 w2 w3
        · skip
          have hx0 := hx
          rw [St.toD.eq_5, brHeadX h0 h1] at hx
          simp only [sS, List.cons_append, List.nil_append] at hx
          obtain ⟨av, vs', nv, hva, hvs⟩ := dvt hx
          obtain ⟨u0, u1, u2, u3, q0, q1, q2, q3⟩ := dvs4 hvs
          obtain ⟨t0, rfl⟩ := dvstr q0
          obtain ⟨wv, ws, nw, hvw, hws⟩ := dvt q3
          obtain ⟨z0, z1, y0, y1⟩ := dvs2 hws
          obtain ⟨p0, pv0, pm0, hp0, hq0⟩ := dvt y0
          obtain ⟨c0, b0, f0, g0⟩ := dvs2 hq0
          obtain ⟨p1, pv1, pm1, hp1, hq1⟩ := dvt y1
          obtain ⟨c1, b1, f1, g1⟩ := dvs2 hq1
          obtain ⟨t1, rfl⟩ := dvstr f0
          obtain ⟨t2, rfl⟩ := dvstr f1
          have hva : Lv g imm' av (tupOf _ nv) := hva
          clear hx hvs hws hq0 hq1
          k_steps
          all_goals (try dsimp only)
          unfold Hold
          refine' call_dict (nw0 := imm') (its := [.ref p0, .ref p1]) (kps := [(Str.ofString "end", b0), (Str.ofString "not end", b1)]) B ?Fg ?Ng hvw ?hng ?Ag (by simp) rfl ?hPg ?_
          case Fg => k_asm
          case Ng => k_asm
          case hng => exact (by (k_extra "og_memb"))
          case Ag => k_asm
          case hPg =>
            intro i v hv
            match i, hv with
            | 0, hv => cases hv; exact ⟨p0, _, t1, b0, _, rfl, hp0, rfl⟩
            | 1, hv => cases hv; exact ⟨p1, _, t2, b1, _, rfl, hp1, rfl⟩
          k_extra "og_peel"
          rename News _ _ _ _ => N0
          clear N0
          k_extra "og_peel"
          rename Fr _ _ _ _ => F0
          clear F0
          intro h8 tk8 D8 o8 F' N' hD8 hs1
          k_steps
          all_goals (try dsimp only)
          unfold Hold
          refine' call_br (nw0 := imm') B ?Fgx ?Ngx ?hngx hx0 ?Agx ?dgx ?ugx ?_
          case Fgx => k_asm
          case Ngx => k_asm
          case hngx => exact (by (k_extra "og_memb"))
          case Agx => k_asm
          case dgx => k_extra "og_d"
          case ugx => k_extra "og_u"
          k_extra "og_peel"
          rename News _ _ _ _ => N0
          clear N0
          k_extra "og_peel"
          rename Fr _ _ _ _ => F0
          clear F0
          intro h9 tk9 D9 kvs o9 imm2 F' N' hD hdo hrows
          try simp only [List.cons_append, List.nil_append] at N'
          k_steps
          all_goals (try dsimp only)
          unfold Hold
          refine' ne_rowsL (na := imm2) (nb := imm') (rs := (St.br kk b x y).due mX) ?F ?N ?ma ?mb hD hD8 hdo hs1 ?hna ?hnb hrows (.cons g0 (.cons g1 .nil)) (due_nodup mX _) (due_hgt mX ok' lev') ?hu ?_
          case F => k_asm
          case N => k_asm
          case ma => k_mem
          case mb => k_mem
          case hna => exact (by (k_extra "og_memb"))
          case hnb => exact (by (k_extra "og_memb"))
          case hu => k_extra "og_u"
          k_steps
          all_goals (try dsimp only)
          k_extra "og_peel"
          rename Fr _ _ _ _ => F9
          rename News _ _ _ _ => N9
          exact fin F9 N9 (by (k_extra "og_memb")) w1 w2 w3
theorem rulesP4 : True := by
  w_top off
  k_with_none
  k_with "spliced" => ((with_reducible show wpAny _ _ (spliced (backTo _ (starEach (_ :: _) _))) _ _ _); k_dflt (refine' args_at ?ogF ?ogk ?ogv ?_; (case ogF => k_asm); (case ogk => rfl); (case ogv => rfl)); k_whole)
  k_with "eval Constant int" => refine int_at ?_
  k_with "eval Constant str" => refine str_at ?_
  k_with "eval Call" => (k_dflt (first | (refine' callK_at ?ogF ?ogX ?ogT ?oge ?ogf ?ogk ?ogg ?ogd ?ogv ?_; (case ogX => k_asm); (case ogT => k_asm); (case oge => k_is); (case ogf => k_is); (case ogg => rfl); (case ogd => rfl); (case ogF => k_asm); (case ogk => rfl); (case ogv => rfl); k_whole) | (refine' callB_at ?ogF ?ogX ?ogT ?oge ?ogb ?ogi ?ogn ?ogk ?ogg ?ogd ?ogv ?_; (case ogX => k_asm); (case ogT => k_asm); (case oge => k_is); (case ogb => boot_fast); (case ogi => rfl); (case ogn => decide); (case ogg => rfl); (case ogd => rfl); (case ogF => k_asm); (case ogk => rfl); (case ogv => rfl); k_whole)))
  k_with "eval Subscript" => (k_dflt (refine' sub_at ?ogF ?ogk ?ogv ?ogw ?_; (case ogF => k_asm); (case ogk => rfl); (case ogv => rfl); (case ogw => rfl)); k_whole)
  k_with "ite" => (k_closed; k_dflt (first | refine iteT rfl ?_ | refine iteF rfl ?_))
  k_with "isTrue Compare" => (k_dflt (refine' cmp_at ?ogF ?ogk ?ogv ?ogw ?ogb ?_; (case ogF => k_asm); (case ogk => rfl); (case ogv => rfl); (case ogw => rfl); (case ogb => rfl)); k_whole)
  k_with "execs cons" => ((with_reducible refine wpAny_execs_cons ?_); (try dsimp only); (try clear qk ek); (try k_fold))
  k_with "og_mem" => first | with_reducible assumption | (refine memI ?_; with_reducible assumption) | (refine List.mem_append_right _ ?_; k_mem) | (refine List.mem_append_left _ ?_; k_mem)
  k_with "og_neo" => first | exact neLt (by assumption) (by k_mem) | exact neGt (by assumption) (by k_mem) | (refine neN ?_; (try dsimp only); lia)
  k_with "og_ne" => first | assumption | exact Ne.symm (by assumption) | (k_extra "og_neo")
  k_with "og_all" => first | assumption | exact neAll (by assumption) (fun _ h => h) | exact neAll (by assumption) (by intro p hp; k_mem) | exact off1 (by assumption) (by assumption) | exact LCg_lt (by assumption) | exact offL (by assumption) (by k_mem) | exact off_tup (by assumption) (by assumption) (by intro p hp; k_mem) (by k_mem) | (refine List.forall_mem_append.mpr ⟨?_, ?_⟩ <;> k_all) | exact off1 (by assumption) (by lia)
  k_with "og_d" => first | exact dlt hd rfl rfl | exact dlt0 hd rfl rfl | exact dle hd rfl rfl | exact dle0 hd rfl rfl | exact dlq hd rfl rfl | exact dlq0 hd rfl rfl | exact dmk hd rfl | exact drk hd rfl | exact drk0 hd rfl | (simp only [depth_deeper, depth_in1]; lia)
  k_with "og_u" => first | exact dlt hu rfl rfl | exact dlt0 hu rfl rfl | exact dle hu rfl rfl | exact dle0 hu rfl rfl | exact dlq hu rfl rfl | exact dlq0 hu rfl rfl | exact umk hu rfl | exact urk hu rfl | exact urk0 hu rfl | (simp only [units_deeper, units_in1]; lia)
  k_with "og_memb" => (repeat' (first | exact List.forall_mem_nil _ | (intro p hp; k_mem; done) | refine List.forall_mem_append.mpr ⟨?_, ?_⟩ | refine List.forall_mem_cons.mpr ⟨?_, ?_⟩ | k_mem))
  k_with "og_peel" => ((try dsimp +zetaDelta only [List.nil_append, List.cons_append] at *); (repeat (first | clear ledk | clear mk | clear qk | clear ek)))
  k_with "newTuple" => (k_dflt (refine' newtup_le ?ogF ?ogN ?_ ?ogz; (case ogF => k_asm); (case ogN => k_asm); (case ogz => kmk_size)); intro _ _ ledk _ _ l1; (try (dsimp +zetaDelta only at l1; k_lt l1)); (try k_sweep); (try (revert l1; intros)))
  k_with "eval Tuple" => (k_dflt (refine' tup_le ?ogF ?ogN ?ogk ?ogv ?ogz ?_; (case ogN => k_asm); (case ogF => k_asm); (case ogk => rfl); (case ogv => rfl); (case ogz => kmk_size)); k_whole; intro _ _ ledk _ _ l1; (try (dsimp +zetaDelta only at l1; k_lt l1)); (try k_sweep); (try (revert l1; intros)))
  k_with "storeName" => (k_dflt (refine' store_le ?ogF ?ogN ?_ ?oga ?ogb; (case ogF => k_asm); (case ogN => k_asm); (case oga => rfl); (case ogb => rfl)); k_whole; intro _ mk _ _; (try k_sweep))
  k_with "call builtin:list.append" => ((with_reducible show wpAny _ _ (call (Value.builtin _) [Value.ref _, _]) _ _ _); k_dflt (refine' append_le ?ogF ?ogN ?ogU ?_ ?ogz; (case ogF => k_asm); (case ogN => k_asm); (case ogU => k_upd); (case ogz => ((try simp only [List.length_append, List.length_cons, List.length_nil]); lia))); k_whole; intro _ ledk _ _; (try k_sweep))
  k_with "execs cons" => (k_dflt (refine Hold.mkAt (by with_reducible assumption) ?_))
  k_with "subscriptTail Name Slice ref ref" => (k_dflt (refine' tail_L ?ogF ?ogN ?ogm ?ogz ?_ ?ogs; (case ogF => k_asm); (case ogN => k_asm); (case ogm => k_mem); (case ogz => lia); (case ogs => with_unfolding_all rfl); k_whole); intro D' h' F' N' l1 l2; (try dsimp only); (try k_lt l1); (try k_lt2 l2); (try k_sweep); (try (revert D' h' F' N' l1 l2; intros)))
  k_with "subscriptTail" => ((with_reducible show wpAny _ _ (subscriptTail _ _ (Value.ref _) (Value.int _ _)) _ _ _); k_dflt (refine' sub_lv ?ogF ?ogN ?ogg ?ogn ?oglo ?oghi ?ogj ?ogx ?_ ?ogs; (case ogF => k_asm); (case ogN => k_asm); (case ogg => with_reducible assumption); (case ogn => (k_extra "og_memb")); (case oglo => decide); (case oghi => decide); (case ogj => exact rfl); (case ogx => exact rfl); (case ogs => with_unfolding_all rfl); k_whole))
  k_with "subscriptTail" => ((with_reducible show wpAny _ _ (subscriptTail _ _ (Value.ref _) (Value.int 0 _)) _ _ _); k_dflt (refine' sub_hlv ?ogF ?ogN ?ogg ?ogn ?_ ?ogs; (case ogF => k_asm); (case ogN => k_asm); (case ogg => with_reducible assumption); (case ogn => (k_extra "og_memb")); (case ogs => with_unfolding_all rfl); k_whole))
  k_with "call type:dict" => (k_dflt (refine Hold.mk ?_))
  k_with "eval Name" => ((with_reducible show wpAny _ _ (eval (Expr.Name _ _) (envX _ _ _ _ _ _)) _ _ _); k_dflt (refine' nameX_Fg ?ogN ?ogc ?ogm ?ogd ?_ ?oga ?ogb; (case oga => rfl); (case ogb => rfl); (case ogN => k_asm); (case ogc => rfl); (case ogm => assumption); (case ogd => assumption)); k_whole)
  k_with "call ref" => (k_dflt (refine Hold.mk ?_))
  k_with "compareOp NotEq" => (k_dflt (refine Hold.mk ?_))
  k_with "compareOp NotEq ref ref" => (k_dflt (refine Hold.mk ?_))
  trivial
theorem law_p4 {prog : Program} {w : World} {A : Around} {s : Shared} {Q : Flow → Shared → Prop} {E : Value → Shared → Prop} {g : Heap} {L aN a0 a1 a2 cl nN n0 n1 n2 nc : Nat} {m : Str → Option Value} {r : Value} {v0 v1 v2 vc : List Value} {cells : List Int} {st : St} {fz : List (Addr × Obj)} {oM : Obj} {p27 p60 : Array Value}
    (B : Base w g) (S : LawSt g L s.heap m r aN a0 a1 a2 cl v0 v1 v2 vc nN n0 n1 n2 nc cells st fz oM) (cM : oM.data = .cell none) (e27 : s.heap.get? 27 = some (tabObj p27)) (e46 : s.heap.get? 46 = some (tabObj #[])) (e60 : s.heap.get? 60 = some (tabObj p60)) (e106 : s.heap.get? 106 = some (tabObj #[]))
    (hb : st.pre.length ≤ 1000) (hok : st.okR) (hlev : st.lev ≤ 3) (hA : A.handled = none) (hd : A.depth ≤ 400) (hu : A.units ≤ 1000)
    (next : ∀ h' tk' m' oM' c', LawSt g L h' m' r aN a0 a1 a2 cl v0 v1 v2 vc nN n0 n1 n2 nc cells st fz oM' → TabV (Hv h') 46 38 46 qualR → h'.get? 106 = some (tabObj #[rawInt 123, rawInt 4, .ref c']) → LawFrom prog w 8 A L Q E { s with heap := h', toks := tk' }) :
    LawFrom prog w 5 A L Q E s := by
  refine' LawFrom.intro ?ho ?_
  case ho => k_is
  intro ho
  simp only [List.drop_succ_cons, List.drop_zero]
  obtain ⟨imm, N, off, tot, mN, m0, m1, m2, mcl, hz, d0, d1, d2, dr⟩ := S.start e27 e46 e60 e106
  have F := fr_names S.F S.mw S.mn S.mc
  have X := B.X
  obtain ⟨p, loose, mean, mg, mb, Tp⟩ := B.T
  have CH : CodeHd g 110 106 := codeAll_mem B.C (110, 106) (by simp)
  have hdr := S.dr
  have oL : ∀ p ∈ imm, p.1 ≠ L + 1 := fun p hp e => off p hp (by simp [e])
  have o46 : ∀ p ∈ imm, p.1 ≠ 46 := fun p hp e => off p hp (by simp [e])
  have o106 : ∀ p ∈ imm, p.1 ≠ 106 := fun p hp e => off p hp (by simp [e])
  have l27 : (27 : Nat) < L := S.lt 27 (by simp)
  have l46 : (46 : Nat) < L := S.lt 46 (by simp)
  have l60 : (60 : Nat) < L := S.lt 60 (by simp)
  have l106 : (106 : Nat) < L := S.lt 106 (by simp)
  k_steps
  all_goals (try dsimp only)
  k_extra "og_peel"
  rename_i l'_0 h'_0 l1_0 h'_1 o'_0 d'_0 f'_0 c'_0 oc'_0 vs'_0 t'_0 ct'_0 dc'_0 h'_2 tk'_0 d1'_0 d2'_0 l1_1 l2_0 h'_3 F'_0 N'_0
  unfold Hold
  simp only [List.nil_append, Array.empty_append] at N'_0
  refine' call_meet (st := st) (oc := oc'_0) (ocell := o'_0) (aF := l'_0) (cell := L + 1) (an := Str.ofString "one") B ?F ?N ?mF ?mf ?mc ?mcell ?m46 l1_0.2.1 l2_0 l1_1.2.2.1 (Nat.lt_succ_of_lt l46) d1'_0 d2'_0 d'_0 ?hb ?c1 ?c2 ?c3 ?c4 ?c5 ?turn ?hv (by lia) hb ?hA ?hd ?hu ?h
  case F => k_asm
  case N => k_asm
  case mF => k_mem
  case mf => k_mem
  case mc => k_mem
  case mcell => k_mem
  case m46 => k_mem
  case hb => exact fun s v => BindsTo.of_eq rfl
  case c1 => exact rfl
  case c2 => decide
  case c3 => exact rfl
  case c4 => exact rfl
  case c5 => exact rfl
  case hA => k_asm
  case hd => k_extra "og_d"
  case hu => k_extra "og_u"
  case hv => exact dv_up F'_0 N'_0 (by (k_extra "og_memb")) dr
  case turn =>
    clear next hA hd hu hdr X Tp CH B S e27 e46 e60 e106 F'_0 N'_0
    intro A s g h₁ L tk v vs n Q hA hd hu F N B' gcell hlen hQ
    have X := B'.X
    obtain ⟨p, loose, mean, mg, mb, Tp⟩ := B'.T
    clear B'
    k_steps
    all_goals (try dsimp only)
    k_extra "og_peel"
    rename Fr _ _ _ _ => F8
    rename News _ _ _ _ => N8
    try rw [List.push_toArray] at N8
    exact hQ _ _ _ _ F8 N8
  case h =>
    intro h' tk' r' vs n' imm' ps' F' N' off' sub dvs T' dr'
    have nn : ∀ p ∈ imm, p ∈ imm' := fun p hp => sub p (by simp [hp]) (o46 p hp) (LCg_lt l1_0.2.2.2.2.2 p hp)
    have lL : (@LT.lt Nat _ (L + 1) l'_0) := l1_0.2.2.2.2.1
    have mM := sub (L + 1, o'_0) (by simp) (fun e => by have e : (L + 1 : Nat) = 46 := e; lia) (fun e => by have e : (L + 1 : Nat) = l'_0 := e; lia)
    have mN' := nn _ mN
    have m1' := nn _ m1
    have dr2 : Dv (Lv g imm') r (st.toD mX) := dr.mono fun _ _ _ z => z.imp id (nn _)
    obtain ⟨ds, eds⟩ := stD_tup mX st
    have hh : hgts ds ≤ 1000 := by
      have := st_hgt mX st hok
      rw [eds, hgt_t] at this
      lia
    rw [eds] at dr' dr2
    replace N' := News.again (News.again (News.again N' (.tail _ (.tail _ mM))) (.tail _ (.tail _ (.tail _ mN')))) (.tail _ (.tail _ (.tail _ (.tail _ m1'))))
    clear F'_0 N'_0 l1_1 l2_0
    k_steps
    all_goals (try dsimp only)
    unfold Hold
    refine' ne_DD (na := imm') (nb := imm') ?F ?N ?hna ?hnb dr' dr2 hh ?hu ?_
    case F => k_asm
    case N => k_asm
    case hna => exact (by (k_extra "og_memb"))
    case hnb => exact (by (k_extra "og_memb"))
    case hu => k_extra "og_u"
    k_steps
    all_goals (try dsimp only)
    unfold Hold
    refine' ne_L (N'.get (.tail _ (.tail _ (.tail _ (.tail _ (.head _)))))) (N'.get (.head _)) dvs (dvs_up F' N' (by (k_extra "og_memb")) (d1.mono fun _ _ _ z => z.imp id (nn _))) ?hu ?_
    case hu =>
      have := post_hgts mX hok hlev
      have c9 : cLine = 9900 := rfl
      rw [c9]
      simp only [units_deeper, units_in1]
      lia
    have mark : HoldMark := .mk
    k_steps
    all_goals (try dsimp only)
    unfold Hold
    k_extra "og_peel"
    rename Fr _ _ _ _ => F9
    rename News _ _ _ _ => N9
    have up : ∀ p ∈ imm', h'.get? p.1 = some p.2 := fun p hp => (N9 p (by simp only [List.mem_cons, hp, or_true])).1
    have q27 := up (27, tabObj p27) (sub _ (by simp) (by simp) (Nat.ne_of_lt l1_0.1))
    have q60 := up (60, tabObj p60) (sub _ (by simp) (by simp) (Nat.ne_of_lt l1_0.2.2.1))
    have q106 := up (106, tabObj #[rawInt (123 : Nat), rawInt (4 : Nat), .ref c'_0]) (sub _ (by simp) (by simp) (Nat.ne_of_lt l1_0.2.2.2.1))
    have qM := up (L + 1, o'_0) mM
    exact LawFrom.out (next _ _ _ _ c'_0 (S.next tot F9 N9 (fun p hp => by simp only [List.mem_cons, nn p hp, or_true]) rfl rfl rfl qM ⟨_, d'_0⟩ (all4.mpr ⟨⟨_, q27, S.int (by simp) e27⟩, ⟨_, N9.get (by k_mem), T'.intAt⟩, ⟨_, q60, S.int (by simp) e60⟩, ⟨_, q106, intAt_int⟩⟩)) (T'.tabV F9 N9 (by k_mem) (by (k_extra "og_memb"))) q106) ho
theorem rulesP5 : True := by
  w_top off
  k_with_none
  k_with "spliced" => ((with_reducible show wpAny _ _ (spliced (backTo _ (starEach (_ :: _) _))) _ _ _); k_dflt (refine' args_at ?ogF ?ogk ?ogv ?_; (case ogF => k_asm); (case ogk => rfl); (case ogv => rfl)); k_whole)
  k_with "eval Constant int" => refine int_at ?_
  k_with "eval Constant str" => refine str_at ?_
  k_with "eval Call" => (k_dflt (first | (refine' callK_at ?ogF ?ogX ?ogT ?oge ?ogf ?ogk ?ogg ?ogd ?ogv ?_; (case ogX => k_asm); (case ogT => k_asm); (case oge => k_is); (case ogf => k_is); (case ogg => rfl); (case ogd => rfl); (case ogF => k_asm); (case ogk => rfl); (case ogv => rfl); k_whole) | (refine' callB_at ?ogF ?ogX ?ogT ?oge ?ogb ?ogi ?ogn ?ogk ?ogg ?ogd ?ogv ?_; (case ogX => k_asm); (case ogT => k_asm); (case oge => k_is); (case ogb => boot_fast); (case ogi => rfl); (case ogn => decide); (case ogg => rfl); (case ogd => rfl); (case ogF => k_asm); (case ogk => rfl); (case ogv => rfl); k_whole)))
  k_with "eval Subscript" => (k_dflt (refine' sub_at ?ogF ?ogk ?ogv ?ogw ?_; (case ogF => k_asm); (case ogk => rfl); (case ogv => rfl); (case ogw => rfl)); k_whole)
  k_with "ite" => (k_closed; k_dflt (first | refine iteT rfl ?_ | refine iteF rfl ?_))
  k_with "isTrue Compare" => (k_dflt (refine' cmp_at ?ogF ?ogk ?ogv ?ogw ?ogb ?_; (case ogF => k_asm); (case ogk => rfl); (case ogv => rfl); (case ogw => rfl); (case ogb => rfl)); k_whole)
  k_with "execs cons" => ((with_reducible refine wpAny_execs_cons ?_); (try dsimp only); (try clear qk ek); (try k_fold))
  k_with "og_mem" => first | with_reducible assumption | (refine memI ?_; with_reducible assumption) | (refine List.mem_append_right _ ?_; k_mem) | (refine List.mem_append_left _ ?_; k_mem)
  k_with "og_neo" => first | exact neLt (by assumption) (by k_mem) | exact neGt (by assumption) (by k_mem) | (refine neN ?_; (try dsimp only); lia)
  k_with "og_ne" => first | assumption | exact Ne.symm (by assumption) | (k_extra "og_neo")
  k_with "og_all" => first | assumption | exact neAll (by assumption) (fun _ h => h) | exact neAll (by assumption) (by intro p hp; k_mem) | exact off1 (by assumption) (by assumption) | exact LCg_lt (by assumption) | exact offL (by assumption) (by k_mem) | exact off_tup (by assumption) (by assumption) (by intro p hp; k_mem) (by k_mem) | (refine List.forall_mem_append.mpr ⟨?_, ?_⟩ <;> k_all) | exact off1 (by assumption) (by lia)
  k_with "og_d" => first | exact dlt hd rfl rfl | exact dlt0 hd rfl rfl | exact dle hd rfl rfl | exact dle0 hd rfl rfl | exact dlq hd rfl rfl | exact dlq0 hd rfl rfl | exact dmk hd rfl | exact drk hd rfl | exact drk0 hd rfl | (simp only [depth_deeper, depth_in1]; lia)
  k_with "og_u" => first | exact dlt hu rfl rfl | exact dlt0 hu rfl rfl | exact dle hu rfl rfl | exact dle0 hu rfl rfl | exact dlq hu rfl rfl | exact dlq0 hu rfl rfl | exact umk hu rfl | exact urk hu rfl | exact urk0 hu rfl | (simp only [units_deeper, units_in1]; lia)
  k_with "og_memb" => (repeat' (first | exact List.forall_mem_nil _ | (intro p hp; k_mem; done) | refine List.forall_mem_append.mpr ⟨?_, ?_⟩ | refine List.forall_mem_cons.mpr ⟨?_, ?_⟩ | k_mem))
  k_with "og_peel" => ((try dsimp +zetaDelta only [List.nil_append, List.cons_append] at *); (repeat (first | clear ledk | clear mk | clear qk | clear ek)))
  k_with "newTuple" => (k_dflt (refine' newtup_le ?ogF ?ogN ?_ ?ogz; (case ogF => k_asm); (case ogN => k_asm); (case ogz => kmk_size)); intro _ _ ledk _ _ l1; (try (dsimp +zetaDelta only at l1; k_lt l1)); (try k_sweep); (try (revert l1; intros)))
  k_with "eval Tuple" => (k_dflt (refine' tup_le ?ogF ?ogN ?ogk ?ogv ?ogz ?_; (case ogN => k_asm); (case ogF => k_asm); (case ogk => rfl); (case ogv => rfl); (case ogz => kmk_size)); k_whole; intro _ _ ledk _ _ l1; (try (dsimp +zetaDelta only at l1; k_lt l1)); (try k_sweep); (try (revert l1; intros)))
  k_with "storeName" => (k_dflt (refine' store_le ?ogF ?ogN ?_ ?oga ?ogb; (case ogF => k_asm); (case ogN => k_asm); (case oga => rfl); (case ogb => rfl)); k_whole; intro _ mk _ _; (try k_sweep))
  k_with "call builtin:list.append" => ((with_reducible show wpAny _ _ (call (Value.builtin _) [Value.ref _, _]) _ _ _); k_dflt (refine' append_le ?ogF ?ogN ?ogU ?_ ?ogz; (case ogF => k_asm); (case ogN => k_asm); (case ogU => k_upd); (case ogz => ((try simp only [List.length_append, List.length_cons, List.length_nil]); lia))); k_whole; intro _ ledk _ _; (try k_sweep))
  k_with "execs cons" => (k_dflt (refine Hold.mkAt (by with_reducible assumption) ?_))
  k_with "subscriptTail Name Slice ref ref" => (k_dflt (refine' tail_L ?ogF ?ogN ?ogm ?ogz ?_ ?ogs; (case ogF => k_asm); (case ogN => k_asm); (case ogm => k_mem); (case ogz => lia); (case ogs => with_unfolding_all rfl); k_whole); intro D' h' F' N' l1 l2; (try dsimp only); (try k_lt l1); (try k_lt2 l2); (try k_sweep); (try (revert D' h' F' N' l1 l2; intros)))
  k_with "subscriptTail" => ((with_reducible show wpAny _ _ (subscriptTail _ _ (Value.ref _) (Value.int _ _)) _ _ _); k_dflt (refine' sub_lv ?ogF ?ogN ?ogg ?ogn ?oglo ?oghi ?ogj ?ogx ?_ ?ogs; (case ogF => k_asm); (case ogN => k_asm); (case ogg => with_reducible assumption); (case ogn => (k_extra "og_memb")); (case oglo => decide); (case oghi => decide); (case ogj => exact rfl); (case ogx => exact rfl); (case ogs => with_unfolding_all rfl); k_whole))
  k_with "subscriptTail" => ((with_reducible show wpAny _ _ (subscriptTail _ _ (Value.ref _) (Value.int 0 _)) _ _ _); k_dflt (refine' sub_hlv ?ogF ?ogN ?ogg ?ogn ?_ ?ogs; (case ogF => k_asm); (case ogN => k_asm); (case ogg => with_reducible assumption); (case ogn => (k_extra "og_memb")); (case ogs => with_unfolding_all rfl); k_whole))
  k_with "call type:dict" => (k_dflt (refine Hold.mk ?_))
  k_with "eval Name" => ((with_reducible show wpAny _ _ (eval (Expr.Name _ _) (envX _ _ _ _ _ _)) _ _ _); k_dflt (refine' nameX_Fg ?ogN ?ogc ?ogm ?ogd ?_ ?oga ?ogb; (case oga => rfl); (case ogb => rfl); (case ogN => k_asm); (case ogc => rfl); (case ogm => assumption); (case ogd => assumption)); k_whole)
  k_with "call ref" => (k_dflt (refine Hold.mk ?_))
  k_with "compareOp NotEq" => (k_dflt (refine Hold.mk ?_))
  k_with "compareOp NotEq ref ref" => (k_dflt (refine Hold.mk ?_))
  trivial
theorem law_p5 {prog : Program} {w : World} {A : Around} {s : Shared} {Q : Flow → Shared → Prop} {E : Value → Shared → Prop} {g : Heap} {L aN a0 a1 a2 cl nN n0 n1 n2 nc c₁ : Nat} {m : Str → Option Value} {r : Value} {v0 v1 v2 vc : List Value} {cells : List Int} {st : St} {fz : List (Addr × Obj)} {oM : Obj} {p27 p60 : Array Value}
    (B : Base w g) (S : LawSt g L s.heap m r aN a0 a1 a2 cl v0 v1 v2 vc nN n0 n1 n2 nc cells st fz oM) (e27 : s.heap.get? 27 = some (tabObj p27)) (e46 : TabV (Hv s.heap) 46 38 46 qualR) (e60 : s.heap.get? 60 = some (tabObj p60)) (e106 : s.heap.get? 106 = some (tabObj #[rawInt 123, rawInt 4, .ref c₁]))
    (hb : st.pre.length ≤ 1000) (hok : st.okR) (hlev : st.lev ≤ 3) (hA : A.handled = none) (hd : A.depth ≤ 400) (hu : A.units ≤ 1000)
    (next : ∀ h' tk' m' oM', LawSt g L h' m' r aN a0 a1 a2 cl v0 v1 v2 vc nN n0 n1 n2 nc cells st fz oM' → LawFrom prog w 9 A L Q E { s with heap := h', toks := tk' }) :
    LawFrom prog w 8 A L Q E s := by
  refine' LawFrom.intro ?ho ?_
  case ho => k_is
  intro ho
  simp only [List.drop_succ_cons, List.drop_zero]
  obtain ⟨p46, t46⟩ := e46.has
  obtain ⟨imm, N, off, tot, mN, m0, m1, m2, mcl, hz, d0, d1, d2, dr⟩ := S.start e27 t46 e60 e106
  have F := fr_names S.F S.mw S.mn S.mc
  have X := B.X
  obtain ⟨p, loose, mean, mg, mb, Tp⟩ := B.T
  have CH : CodeHd g 110 106 := codeAll_mem B.C (110, 106) (by simp)
  have oL : ∀ p ∈ imm, p.1 ≠ L + 1 := fun p hp e => off p hp (by simp [e])
  have o46 : ∀ p ∈ imm, p.1 ≠ 46 := fun p hp e => off p hp (by simp [e])
  have o106 : ∀ p ∈ imm, p.1 ≠ 106 := fun p hp e => off p hp (by simp [e])
  have l27 : (27 : Nat) < L := S.lt 27 (by simp)
  have l46 : (46 : Nat) < L := S.lt 46 (by simp)
  have l60 : (60 : Nat) < L := S.lt 60 (by simp)
  have l106 : (106 : Nat) < L := S.lt 106 (by simp)
  refine wpAny_execs_cons ?_
  try dsimp only
  k_steps
  all_goals (try dsimp only)
  k_extra "og_peel"
  rename_i f'_0 c'_0 oc'_0 vs'_0 t'_0 ct'_0 h'_0 tk'_0 F'_0 N'_0 d1'_0 d2'_0 l1_0 l2_0
  unfold Hold
  have T46 := S.tab46 tot t46 e46
  refine' call_lamreb (st := st) (oc := oc'_0) (an := Str.ofString "one") B ?F ?N ?mf ?mc ?m46 ?T l2_0 l1_0.2.1 d1'_0 d2'_0 ?hb ?c1 ?c2 ?c3 ?c4 ?c5 ?turn ?hv (by lia) hb ?hA ?hd ?hu ?h
  case F => k_asm
  case N => k_asm
  case mf => k_mem
  case mc => k_mem
  case m46 => k_mem
  case T => exact T46.tabV F'_0 N'_0 (by k_mem) (by (k_extra "og_memb"))
  case hb => exact fun v => rfl
  case c1 => exact rfl
  case c2 => decide
  case c3 => exact rfl
  case c4 => exact rfl
  case c5 => exact rfl
  case hA => k_asm
  case hd => k_extra "og_d"
  case hu => k_extra "og_u"
  case hv => exact dv_up F'_0 N'_0 (by (k_extra "og_memb")) dr
  case turn =>
    clear next hA hd hu X Tp CH B S e27 e46 e60 e106 F'_0 N'_0 T46 tot
    intro A s g h₁ L tk v x V Q hA hd hu F N B' hVg dv hQ
    have X := B'.X
    obtain ⟨p, loose, mean, mg, mb, Tp⟩ := B'.T
    clear B'
    obtain ⟨hd9, ds, e9, hcase⟩ := bare_heads x
    rw [e9] at dv
    have dv0 := dv
    obtain ⟨av, tv, vs', nv, rfl, hva⟩ := dvh dv
    have hva : Lv g [] av (tupOf (.str hd9 tv :: vs') nv) := .inl (hVg _ _ _ hva)
    rcases hcase with ⟨rfl, eb⟩ | ⟨hin, eb⟩
    · rw [eb] at hQ
      clear e9 eb dv dv0 hVg
      k_steps
      all_goals (try dsimp only)
      k_extra "og_peel"
      rename Fr _ _ _ _ => F8
      rename News _ _ _ _ => N8
      exact hQ _ _ _ _ _ _ F8 N8 (fun p hp => hp) (.tup (n := 0) (.inr (.head _)) (.cons (.str _ _) .nil))
    · rw [eb, e9] at hQ
      clear e9 eb dv hVg
      simp only [List.mem_cons, List.not_mem_nil, or_false] at hin
      rcases hin with rfl | rfl | rfl | rfl | rfl | rfl
      all_goals (
        k_steps
        (try dsimp only)
        k_extra "og_peel"
        rename Fr _ _ _ _ => F8
        rename News _ _ _ _ => N8
        exact hQ _ _ _ _ _ _ F8 N8 (List.forall_mem_nil _) (up_v dv0))
  case h =>
    intro h' tk' r' imm' ps' F' N' off' sub int' dr'
    have nn : ∀ p ∈ imm, p ∈ imm' := fun p hp => sub p (by simp [hp]) (o46 p hp)
    have mM := sub (L + 1, oM) (by simp) (fun e => by have e : (L + 1 : Nat) = 46 := e; lia)
    have dr2 : Dv (Lv g imm') r (st.toD mX) := dr.mono fun _ _ _ z => z.imp id (nn _)
    clear F'_0 N'_0
    k_steps
    all_goals (try dsimp only)
    unfold Hold
    refine' call_pure (x := st.toD mX) (@bare_all prog w 40) ⟨st_bok mX st hok, ?hh⟩ rfl B ?F ?N ?hv ?hA ?hd ?hu ?h2
    case F => k_asm
    case N => k_asm
    case hh =>
      have := st_hgt mX st hok
      lia
    case hv => exact dv_up F' N' (by (k_extra "og_memb")) dr2
    case hA => k_asm
    case hd => k_extra "og_d"
    case hu => k_extra "og_u"
    case h2 =>
      clear N' F'
      intro h9 tk9 r9 imm9 F' N' dr9
      try simp only [List.cons_append, List.nil_append] at N'
      k_steps
      all_goals (try dsimp only)
      unfold Hold
      obtain ⟨ds, eds, hh⟩ := bareD_tup mX hok hlev
      rw [eds] at dr'
      have dr9 : Dv (Lv g imm9) r9 (bareD mX st) := dr9
      rw [eds] at dr9
      refine' ne_DD (na := imm') (nb := imm9) ?F ?N ?hna ?hnb dr' dr9 hh ?hu ?_
      case F => k_asm
      case N => k_asm
      case hna => exact (by (k_extra "og_memb"))
      case hnb => exact (by (k_extra "og_memb"))
      case hu => k_extra "og_u"
      have mark : HoldMark := .mk
      k_steps
      all_goals (try dsimp only)
      unfold Hold
      k_extra "og_peel"
      rename Fr _ _ _ _ => F9
      rename News _ _ _ _ => N9
      have up : ∀ p ∈ imm', h9.get? p.1 = some p.2 := fun p hp => (N9 p (by simp only [List.mem_cons, List.mem_append, hp, true_or, or_true])).1
      have q27 := up (27, tabObj p27) (sub _ (by simp) (by simp))
      have q60 := up (60, tabObj p60) (sub _ (by simp) (by simp))
      have q106 := up (106, tabObj (#[rawInt (123 : Nat), rawInt (4 : Nat), .ref c₁] ++ #[rawInt (128 : Nat), rawInt (22 : Nat), .ref c'_0])) (sub _ (by simp) (by simp))
      exact LawFrom.out (next _ _ _ _ (S.next tot F9 N9 (fun p hp => by simp only [List.mem_cons, List.mem_append, nn p hp, true_or, or_true]) rfl rfl rfl (up _ mM) S.cM (all4.mpr ⟨⟨_, q27, S.int (by simp) e27⟩, ⟨_, N9.get (by k_mem), int'⟩, ⟨_, q60, S.int (by simp) e60⟩, ⟨_, q106, intAt_int (a := rawInt 123) (k := 4) (r := [.ref c₁, rawInt 128, rawInt 22, .ref c'_0])⟩⟩))) ho
theorem rulesP6 : True := by
  w_top off
  k_with_none
  k_with "spliced" => ((with_reducible show wpAny _ _ (spliced (backTo _ (starEach (_ :: _) _))) _ _ _); k_dflt (refine' args_at ?ogF ?ogk ?ogv ?_; (case ogF => k_asm); (case ogk => rfl); (case ogv => rfl)); k_whole)
  k_with "eval Constant int" => refine int_at ?_
  k_with "eval Constant str" => refine str_at ?_
  k_with "eval Call" => (k_dflt (first | (refine' callK_at ?ogF ?ogX ?ogT ?oge ?ogf ?ogk ?ogg ?ogd ?ogv ?_; (case ogX => k_asm); (case ogT => k_asm); (case oge => k_is); (case ogf => k_is); (case ogg => rfl); (case ogd => rfl); (case ogF => k_asm); (case ogk => rfl); (case ogv => rfl); k_whole) | (refine' callB_at ?ogF ?ogX ?ogT ?oge ?ogb ?ogi ?ogn ?ogk ?ogg ?ogd ?ogv ?_; (case ogX => k_asm); (case ogT => k_asm); (case oge => k_is); (case ogb => boot_fast); (case ogi => rfl); (case ogn => decide); (case ogg => rfl); (case ogd => rfl); (case ogF => k_asm); (case ogk => rfl); (case ogv => rfl); k_whole)))
  k_with "eval Subscript" => (k_dflt (refine' sub_at ?ogF ?ogk ?ogv ?ogw ?_; (case ogF => k_asm); (case ogk => rfl); (case ogv => rfl); (case ogw => rfl)); k_whole)
  k_with "ite" => (k_closed; k_dflt (first | refine iteT rfl ?_ | refine iteF rfl ?_))
  k_with "isTrue Compare" => (k_dflt (refine' cmp_at ?ogF ?ogk ?ogv ?ogw ?ogb ?_; (case ogF => k_asm); (case ogk => rfl); (case ogv => rfl); (case ogw => rfl); (case ogb => rfl)); k_whole)
  k_with "execs cons" => ((with_reducible refine wpAny_execs_cons ?_); (try dsimp only); (try clear qk ek); (try k_fold))
  k_with "og_mem" => first | with_reducible assumption | (refine memI ?_; with_reducible assumption) | (refine List.mem_append_right _ ?_; k_mem) | (refine List.mem_append_left _ ?_; k_mem)
  k_with "og_neo" => first | exact neLt (by assumption) (by k_mem) | exact neGt (by assumption) (by k_mem) | (refine neN ?_; (try dsimp only); lia)
  k_with "og_ne" => first | assumption | exact Ne.symm (by assumption) | (k_extra "og_neo")
  k_with "og_all" => first | assumption | exact neAll (by assumption) (fun _ h => h) | exact neAll (by assumption) (by intro p hp; k_mem) | exact off1 (by assumption) (by assumption) | exact LCg_lt (by assumption) | exact offL (by assumption) (by k_mem) | exact off_tup (by assumption) (by assumption) (by intro p hp; k_mem) (by k_mem) | (refine List.forall_mem_append.mpr ⟨?_, ?_⟩ <;> k_all) | exact off1 (by assumption) (by lia)
  k_with "og_d" => first | exact dlt hd rfl rfl | exact dlt0 hd rfl rfl | exact dle hd rfl rfl | exact dle0 hd rfl rfl | exact dlq hd rfl rfl | exact dlq0 hd rfl rfl | exact dmk hd rfl | exact drk hd rfl | exact drk0 hd rfl | (simp only [depth_deeper, depth_in1]; lia)
  k_with "og_u" => first | exact dlt hu rfl rfl | exact dlt0 hu rfl rfl | exact dle hu rfl rfl | exact dle0 hu rfl rfl | exact dlq hu rfl rfl | exact dlq0 hu rfl rfl | exact umk hu rfl | exact urk hu rfl | exact urk0 hu rfl | (simp only [units_deeper, units_in1]; lia)
  k_with "og_memb" => (repeat' (first | exact List.forall_mem_nil _ | (intro p hp; k_mem; done) | refine List.forall_mem_append.mpr ⟨?_, ?_⟩ | refine List.forall_mem_cons.mpr ⟨?_, ?_⟩ | k_mem))
  k_with "og_peel" => ((try dsimp +zetaDelta only [List.nil_append, List.cons_append] at *); (repeat (first | clear ledk | clear mk | clear qk | clear ek)))
  k_with "newTuple" => (k_dflt (refine' newtup_le ?ogF ?ogN ?_ ?ogz; (case ogF => k_asm); (case ogN => k_asm); (case ogz => kmk_size)); intro _ _ ledk _ _ l1; (try (dsimp +zetaDelta only at l1; k_lt l1)); (try k_sweep); (try (revert l1; intros)))
  k_with "eval Tuple" => (k_dflt (refine' tup_le ?ogF ?ogN ?ogk ?ogv ?ogz ?_; (case ogN => k_asm); (case ogF => k_asm); (case ogk => rfl); (case ogv => rfl); (case ogz => kmk_size)); k_whole; intro _ _ ledk _ _ l1; (try (dsimp +zetaDelta only at l1; k_lt l1)); (try k_sweep); (try (revert l1; intros)))
  k_with "storeName" => (k_dflt (refine' store_le ?ogF ?ogN ?_ ?oga ?ogb; (case ogF => k_asm); (case ogN => k_asm); (case oga => rfl); (case ogb => rfl)); k_whole; intro _ mk _ _; (try k_sweep))
  k_with "call builtin:list.append" => ((with_reducible show wpAny _ _ (call (Value.builtin _) [Value.ref _, _]) _ _ _); k_dflt (refine' append_le ?ogF ?ogN ?ogU ?_ ?ogz; (case ogF => k_asm); (case ogN => k_asm); (case ogU => k_upd); (case ogz => ((try simp only [List.length_append, List.length_cons, List.length_nil]); lia))); k_whole; intro _ ledk _ _; (try k_sweep))
  k_with "execs cons" => (k_dflt (refine Hold.mkAt (by with_reducible assumption) ?_))
  k_with "subscriptTail Name Slice ref ref" => (k_dflt (refine' tail_L ?ogF ?ogN ?ogm ?ogz ?_ ?ogs; (case ogF => k_asm); (case ogN => k_asm); (case ogm => k_mem); (case ogz => lia); (case ogs => with_unfolding_all rfl); k_whole); intro D' h' F' N' l1 l2; (try dsimp only); (try k_lt l1); (try k_lt2 l2); (try k_sweep); (try (revert D' h' F' N' l1 l2; intros)))
  k_with "subscriptTail" => ((with_reducible show wpAny _ _ (subscriptTail _ _ (Value.ref _) (Value.int _ _)) _ _ _); k_dflt (refine' sub_lv ?ogF ?ogN ?ogg ?ogn ?oglo ?oghi ?ogj ?ogx ?_ ?ogs; (case ogF => k_asm); (case ogN => k_asm); (case ogg => with_reducible assumption); (case ogn => (k_extra "og_memb")); (case oglo => decide); (case oghi => decide); (case ogj => exact rfl); (case ogx => exact rfl); (case ogs => with_unfolding_all rfl); k_whole))
  k_with "subscriptTail" => ((with_reducible show wpAny _ _ (subscriptTail _ _ (Value.ref _) (Value.int 0 _)) _ _ _); k_dflt (refine' sub_hlv ?ogF ?ogN ?ogg ?ogn ?_ ?ogs; (case ogF => k_asm); (case ogN => k_asm); (case ogg => with_reducible assumption); (case ogn => (k_extra "og_memb")); (case ogs => with_unfolding_all rfl); k_whole))
  k_with "call type:dict" => (k_dflt (refine Hold.mk ?_))
  k_with "eval Name" => ((with_reducible show wpAny _ _ (eval (Expr.Name _ _) (envX _ _ _ _ _ _)) _ _ _); k_dflt (refine' nameX_Fg ?ogN ?ogc ?ogm ?ogd ?_ ?oga ?ogb; (case oga => rfl); (case ogb => rfl); (case ogN => k_asm); (case ogc => rfl); (case ogm => assumption); (case ogd => assumption)); k_whole)
  k_with "call ref" => (k_dflt (refine Hold.mk ?_))
  k_with "call type:list" => (k_dflt (refine' list_cpy ?ogF ?ogN ?ogb ?ogi ?ogz ?_; (case ogF => k_asm); (case ogN => k_asm); (case ogb => k_mem); (case ogi => with_reducible assumption); (case ogz => lia); k_whole); intro D' c' h' F' N' l1; (try dsimp only); (try k_lt l1); (try k_sweep); (try (revert D' c' h' F' N' l1; intros)))
  k_with "compareOp Eq" => (k_dflt (refine Hold.mk ?_))
  k_with "compareOp Eq ref" => (k_dflt (refine Hold.mk ?_))
  k_with "compareOp Eq ref ref" => (k_dflt (refine Hold.mk ?_))
  trivial
theorem law_p6 {prog : Program} {w : World} {A : Around} {s : Shared} {Q : Flow → Shared → Prop} {E : Value → Shared → Prop} {g : Heap} {L aN a0 a1 a2 cl nN n0 n1 n2 nc : Nat} {m : Str → Option Value} {r : Value} {v0 v1 v2 vc : List Value} {cells : List Int} {st : St} {fz : List (Addr × Obj)} {oM : Obj}
    (B : Base w g) (S : LawSt g L s.heap m r aN a0 a1 a2 cl v0 v1 v2 vc nN n0 n1 n2 nc cells st fz oM) (hst : st = lawSt cells) (hpos : 0 < cells.length) (hlen : cells.length ≤ 60)
    (hok : st.okR) (hlev : st.lev ≤ 3) (hA : A.handled = none) (hd : A.depth ≤ 400) (hu : A.units ≤ 1000)
    (hQ : ∀ h' tk', (∀ b o, g.get? b = some o → h'.get? b = some o) → (∀ P ∈ [27, 46, 60, 106], ∃ ps, h'.get? P = some (tabObj ps)) → Q (.ret (.bool true)) { s with heap := h', toks := tk' }) :
    LawFrom prog w 9 A L Q E s := by
  refine' LawFrom.intro ?ho ?_
  case ho => k_is
  intro ho
  simp only [List.drop_succ_cons, List.drop_zero]
  obtain ⟨⟨p27, e27, _⟩, ⟨p46, e46, _⟩, ⟨p60, e60, _⟩, ⟨p106, e106, _⟩⟩ := all4.mp S.tb
  obtain ⟨imm, N, off, tot, mN, m0, m1, m2, mcl, hz, d0, d1, d2, dr⟩ := S.start e27 e46 e60 e106
  have F := fr_names S.F S.mw S.mn S.mc
  have ci := S.ci
  have X := B.X
  obtain ⟨p, loose, mean, mg, mb, Tp⟩ := B.T
  have o46 : ∀ p ∈ imm, p.1 ≠ 46 := fun p hp e => off p hp (by simp [e])
  have l27 : (27 : Nat) < L := S.lt 27 (by simp)
  have l46 : (46 : Nat) < L := S.lt 46 (by simp)
  have l60 : (60 : Nat) < L := S.lt 60 (by simp)
  have l106 : (106 : Nat) < L := S.lt 106 (by simp)
  refine wpAny_execs_cons ?_
  try dsimp only
  k_steps
  all_goals (try dsimp only)
  unfold Hold
  refine' call_pure (x := st.toD mX) (@exr_all prog w 40) ⟨st_rok st hok, ?hh⟩ rfl B ?F ?N ?hv ?hA ?hd ?hu ?h2
  case F => k_asm
  case N => k_asm
  case hh =>
    have := st_hgt mX st hok
    lia
  case hv => exact S.dr
  case hA => k_asm
  case hd => k_extra "og_d"
  case hu => k_extra "og_u"
  case h2 =>
    clear N F
    intro h9 tk9 r9 imm9 F' N' dr9
    rw [st_ren st hok] at dr9
    try simp only [List.cons_append, List.nil_append] at N'
    have mcl' : (cl, listOf vc.toArray nc) ∈ imm ++ imm9 := List.mem_append_left _ mcl
    replace N' := News.again N' (.tail _ (.tail _ (.tail _ (.tail _ (.tail _ mcl')))))
    k_steps
    all_goals (try dsimp only)
    k_extra "og_peel"
    rename_i D'_0 c'_0 h'_0 l1_0 l'_1 h'_1 l1_1 l'_2 h'_2 l1_2 l'_3 h'_3 l1_3 l'_4 h'_4 l1_4 l'_5 h'_5 F'_5 N'_5 l1_5
    unfold Hold
    refine' call_lawmade B F'_5 N'_5 (by k_mem) (by k_mem) (by k_mem) (by k_mem) (by k_mem) (by k_mem) ci hpos hlen (nd6 l1_1.1 l1_2.1 l1_3.1 l1_4.1 l1_5.1) (by decide) ?hA ?hd ?hu ?h
    case hA => k_asm
    case hd => k_extra "og_d"
    case hu => k_extra "og_u"
    case h =>
      intro h' tk' r2 vs0 vs1 vs2 fz' imm2 z0 z1 z2 F' N' sub q0 q1 q2 e0 e1 e2 hfz
      have dr2 := toDs_pre e0
      rw [← hst] at dr2
      have al1 := LCg_lt l1_1.2.2.2.2.2.2.2
      have al0 : ∀ p ∈ imm ++ imm9, p.1 ≠ D'_0 := LCg_lt l1_0.2.2.2.2.2.2
      have al2 := LCg_lt l1_2.2.2.2.2.2.2.2.2
      have al3 := LCg_lt l1_3.2.2.2.2.2.2.2.2.2
      have al4 := LCg_lt l1_4.2.2.2.2.2.2.2.2.2.2
      have nn : ∀ p ∈ imm9, p ∈ imm2 := fun p hp => sub p (by simp only [List.mem_cons, List.mem_append, hp, or_true]) fun q => by
        have hp : p ∈ imm ++ imm9 := List.mem_append_right _ hp
        simp only [List.mem_cons, List.not_mem_nil, or_false] at q
        rcases q with q | q | q | q | q
        · exact al1 p hp q
        · exact al0 p hp q
        · exact al2 p hp q
        · exact al3 p hp q
        · exact al4 p hp q
      clear N'_5 F'_5
      k_steps
      all_goals (try dsimp only)
      unfold Hold
      obtain ⟨ds, eds⟩ := stD_tup mY st
      have hh : hgts ds ≤ 1000 := by
        have := st_hgt mY st hok
        rw [eds, hgt_t] at this
        lia
      replace dr9 : Dv (Lv g imm9) r9 (.tup ds) := by rw [← eds]; exact dr9
      replace dr2 : Dv (Lv g imm2) r2 (.tup ds) := by rw [← eds]; exact dr2
      refine' eq_DD (na := imm9) (nb := imm2) F' N' nn (fun p hp => hp) dr9 dr2 hh ?hu ?_
      case hu => k_extra "og_u"
      have y1 : (@LT.lt Nat _ D'_0 l'_1) := l1_1.1
      have y2 : (@LT.lt Nat _ l'_1 l'_2) := l1_2.1
      have y3 : (@LT.lt Nat _ l'_2 l'_3) := l1_3.1
      have y4 : (@LT.lt Nat _ l'_3 l'_4) := l1_4.1
      have tt : ∀ (P : Nat) (o : Obj), P < D'_0 → (P, o) ∈ (27, tabObj p27) :: (46, tabObj p46) :: (60, tabObj p60) :: (106, tabObj p106) :: (L + 1, oM) :: (imm ++ imm9) → h'.get? P = some o := fun P o lt hm => (N' (P, o) (sub _ (by
        simp only [List.mem_cons] at hm ⊢
        rcases hm with h | h | h | h | h | h <;> simp only [h, true_or, or_true]) fun q => by
          simp only [List.mem_cons, List.not_mem_nil, or_false] at q
          have q : (@Eq Nat P l'_1) ∨ (@Eq Nat P D'_0) ∨ (@Eq Nat P l'_2) ∨ (@Eq Nat P l'_3) ∨ (@Eq Nat P l'_4) := q
          have lt : (@LT.lt Nat _ P D'_0) := lt
          lia)).1
      exact hQ _ _ F'.keep (all4.mpr ⟨⟨_, tt 27 _ l1_0.2.1 (by k_mem)⟩, ⟨_, tt 46 _ l1_0.2.2.1 (by k_mem)⟩, ⟨_, tt 60 _ l1_0.2.2.2.1 (by k_mem)⟩, ⟨_, tt 106 _ l1_0.2.2.2.2.1 (by k_mem)⟩⟩)
theorem law_rest {prog : Program} {w : World} {A : Around} {s : Shared} {Q : Flow → Shared → Prop} {E : Value → Shared → Prop} {g : Heap} {L aN a0 a1 a2 cl nN n0 n1 n2 nc : Nat} {m : Str → Option Value} {r x0 : Value} {v0 v1 v2 vc : List Value} {cells : List Int} {fz : List (Addr × Obj)} {oM : Obj}
    (hA : A.handled = none) (hd : A.depth ≤ 400) (hu : A.units ≤ 1000) (B : Base w g) (S : LawSt g L s.heap m r aN a0 a1 a2 cl (x0 :: v0) v1 v2 vc nN n0 n1 n2 nc cells (lawSt cells) fz oM) (cM : oM.data = .cell none) (tb : ∀ P ∈ [27, 46, 60, 106], s.heap.get? P = some (tabObj #[])) (hpos : 0 < cells.length) (hlen : cells.length ≤ 60)
    (hQ : ∀ h' tk', (∀ b o, g.get? b = some o → h'.get? b = some o) → (∀ P ∈ [27, 46, 60, 106], ∃ ps, h'.get? P = some (tabObj ps)) → Q (.ret (.bool true)) { s with heap := h', toks := tk' }) : LawFrom prog w 3 A L Q E s := by
  have hb : (lawSt cells).pre.length ≤ 1000 := Nat.le_trans ((madeF_mk 3).cnt _ _) (by decide)
  have hok : (lawSt cells).okR := madeF_okR 3 _ _
  have hlev : (lawSt cells).lev ≤ 3 := madeF_lev 3 _ _
  obtain ⟨t27, t46, t60, t106⟩ := all4.mp tb
  refine law_p2 B S t27 t46 t60 t106 hb hok hlev hA hd hu fun h₁ tk₁ m₁ S₁ q46 q60 q106 => ?_
  obtain ⟨p27, e27, _⟩ := S₁.tb 27 (by simp)
  refine law_p3 B S₁ e27 q46 q60 q106 hb hok hlev hA hd hu fun h₂ tk₂ m₂ S₂ r46 r106 => ?_
  obtain ⟨p27, e27, _⟩ := S₂.tb 27 (by simp)
  obtain ⟨p60, e60, _⟩ := S₂.tb 60 (by simp)
  refine law_p4 B S₂ cM e27 r46 e60 r106 hb hok hlev hA hd hu fun h₃ tk₃ m₃ oM₃ c₃ S₃ T46 u106 => ?_
  obtain ⟨p27, e27, _⟩ := S₃.tb 27 (by simp)
  obtain ⟨p60, e60, _⟩ := S₃.tb 60 (by simp)
  refine law_p5 B S₃ e27 T46 e60 u106 hb hok hlev hA hd hu fun h₄ tk₄ m₄ oM₄ S₄ => ?_
  exact law_p6 B S₄ rfl hpos hlen hok hlev hA hd hu fun h' tk' k t => hQ h' tk' k t
theorem law_spec {prog : Program} {w : World} {A : Around} {s : Shared} {G : Heap} {R : Result → Shared → Prop} {l : Nat} {vs : List Value} {ns : List Int} (B : Base w G) (kp : G.StaysIn s.heap) (hl : G.IsList l vs.toArray) (hi : IntsAre vs ns) (hlen : ns.length ≤ 63)
    (tabs : ∀ P ∈ [27, 46, 60, 106], s.heap.get? P = some (tabObj #[]) ∧ G.get? P = none) (hA : A.handled = none) (hd : A.depth ≤ 400) (hu : A.units ≤ 1000)
    (h : ∀ h' tk', (∀ b o, G.get? b = some o → h'.get? b = some o) → (∀ P ∈ [27, 46, 60, 106], ∃ ps, h'.get? P = some (tabObj ps)) → R (.ok (.ret (.bool true))) { s with heap := h', toks := tk' }) :
    codeAny (model prog w) A (.call (.ref 111) ⟨[.ref l], []⟩) R s :=
  law_p1 B kp hl hi hlen tabs hA hd hu (fun B S cM tb hpos hle hQ => law_rest hA hd hu B S cM tb hpos hle hQ) h
end Og
open PySem PySem.W PyProof.Rows Og in
theorem PySem.Challenge.cw_og0067_01_holds : PySem.Challenge.rw_og0067_01.Holds := by
  refine hdOg ?_
  k_fill
  intro w s₀ s₁ mg mb G Y fa o pm cd doc dV kV ho hd hcd hD hmg hg args vals as hpre hlay hrd hwl hlo
  have KX := km_in_of Y
  km_tabs Y
  have X := (Ground.X G).1
  have V := (Ground.X G).2
  refine Ground.open G ?_
  intro T B D TE TW
  try (refine guard_noD D (by decide +kernel) ?_; clear D)
  km_lay T hmg ho hd cd
  have hfa : some (Value.ref fa) = some (.ref 111) := hmg.symm.trans (mg_of KX (Top.g T) (by kernel_rfl))
  have hfa : fa = 111 := by injection hfa with e; injection e with e
  subst hfa
  wrow_args hpre hlay hrd hwl hlo
  all_goals (
    first | refine callC_kw (enter_call ?_) | refine enter_call ?_
    w_top on
    kn_posts
    rename IntsAre _ _ => hI
    rename ¬ _ < _ => hlen
    rename Heap.IsList _ _ _ => hL
    have tb := (all4 (P := fun P => s₁.heap.get? P = some (tabObj #[]))).mpr ⟨hT8 27 (by simp), hT8 46 (by simp), hT8 60 (by simp), hT8 106 (by simp)⟩
    refine law_spec (G := ghostOf s₁.heap [(64, 60), (50, 46), (31, 27), (110, 106)]) ⟨ghost_K hT9 KX (by kernel_rfl), ⟨_, _, _, _, _, ghost_top hT9 T⟩, ghost_code hT9⟩ (fun b o e => of_hideAll _ e) (ghost_list hT9 hL) hI (by omega) (fun P hP => ⟨tb P hP, hideAll_none _ ?_⟩) rfl ?_ ?_ ?_
    · simp only [List.mem_cons, List.not_mem_nil, or_false, List.map_cons, List.map_nil] at hP ⊢
      rcases hP with rfl | rfl | rfl | rfl <;> simp
    · simp only [depth_caller]; decide
    · simp only [units_caller]; decide
    · intro h' tk' k t
      obtain ⟨t27, t46, t60, t106⟩ := all4.mp t
      refine ⟨⟨.inl ⟨_, _, _, rfl, fun _ => rfl, .bool true, (by first | with_unfolding_all rfl | kernel_rfl | decide +kernel), fun _ => ⟨.nil, nofun⟩⟩, k, rfl, hg⟩, t60, t46, t27, t106, trivial⟩)
