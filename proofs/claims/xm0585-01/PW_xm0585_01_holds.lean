import PyProof.Rows.All
import Wide.All
import OpenK.AllK
import Wide.FinOn
import PySem.Challenge.RW_xm0585_01
open PySem PySem.W PyProof.Rows PySem.Calls
set_option Elab.async false
set_option linter.unusedVariables false
set_option compiler.extract_closed false
namespace Mine
def vw : Program := view PySem.Challenge.pw_xm0585_01 [0, 2, 3, 5, 6, 7, 8, 9, 10, 11, 13, 14, 15, 16, 17, 18, 19, 20, 21, 22, 23, 24, 25, 26]
-- the head: the top's run in one piece (the kernel runs it whole), no states between
local macro_rules | `(tactic| o_head $H) => `(tactic| (
  refine holds_open (q := Mine.vw) (loose := []) (Xt := fun s => xlAt Mine.vw [] s && recOk (RowW.records (OpenRow.toRowW (OpenLaw.row PySem.Challenge.rw_xm0585_01))) s) (XP := XL Mine.vw []) (Yf := Hook.obs $H) (Ya := Hook.val $H) (YP := Hook.says $H) (N := 2454) ?hl (Hook.of $H) (Hook.keeps $H) (fun s e => xl_of s (Bool.and_eq_true_iff.mp e).1) XL.keeps (by rfl) (by rfl) (by rfl) (fun s e => recFacts_of (Bool.and_eq_true_iff.mp e).2) (by rfl) (by first | assumption | decide +kernel) (by decide +kernel) ⟨rfl, rfl, rfl, rfl, rfl, by decide +kernel⟩ ?hw ?hc
  (case hl => exact fun w => by kernel_rfl)))
-- the looks at the law, by the kernel, one by one
set_option maxRecDepth 100000 in
theorem law_said : OpenLaw.wellSaid PySem.Challenge.rw_xm0585_01 = true := by
  unfold OpenLaw.wellSaid OpenRow.wellSaid OpenRow.partSaid looksOpen
  repeat' (with_reducible refine look_both ?_ ?_)
  all_goals decide +kernel
local macro_rules | `(tactic| o_law) => `(tactic| refine holds_law Mine.law_said fun said => ?_)
set_option maxRecDepth 100000 in
set_option maxHeartbeats 8000000 in
open_top hd for PySem.Challenge.rw_xm0585_01
theorem walks_inner : True := by
  w_top off
  exact trivial
theorem room1 {x a b : Nat} (h : x + a < b) : x < b := Nat.lt_of_le_of_lt (Nat.le_add_right x a) h
theorem room2 {x a b c : Nat} (h : x + a < b) (e : Nat.ble c a = true) : x + c < b := Nat.lt_of_le_of_lt (Nat.add_le_add_left (Nat.le_of_ble_eq_true e) x) h
theorem room3 {x a b c d : Nat} (h : x + a < b) (e : Nat.ble (c + d) a = true) : x + c + d < b := by
  rw [Nat.add_assoc]; exact room2 h e
theorem allLt_ne {d a : Nat} {o : Obj} : ∀ {l : List (Addr × Obj)}, AllLt d l → (a, o) ∈ l → a ≠ d
  | _ :: _, h, .head _ => Nat.ne_of_lt h.1
  | _ :: _, h, .tail _ q => allLt_ne h.2 q
def AllNe (r : Addr) : List (Addr × Obj) → Prop
  | [] => True
  | p :: l => (@Ne Nat p.1 r) ∧ AllNe r l
theorem AllNe.of {r : Addr} : ∀ {l : List (Addr × Obj)}, (∀ p ∈ l, p.1 ≠ r) → AllNe r l
  | [], _ => trivial
  | p :: _, h => ⟨h p (.head _), AllNe.of fun q hq => h q (.tail _ hq)⟩
theorem allNe_ne {r a : Nat} {o : Obj} : ∀ {l : List (Addr × Obj)}, AllNe r l → (a, o) ∈ l → a ≠ r
  | _ :: _, h, .head _ => h.1
  | _ :: _, h, .tail _ q => allNe_ne h.2 q
theorem off1_ne {D : Addr} : ∀ {l : List (Addr × Obj)}, LCg.Off1 D l → AllNe D l
  | [], _ => trivial
  | _ :: _, x => ⟨x.1, off1_ne x.2⟩
theorem off3_I {I C D : Addr} : ∀ {l : List (Addr × Obj)}, LCg.Off3 I C D l → AllNe I l
  | [], _ => trivial
  | _ :: _, x => ⟨x.1.1, off3_I x.2⟩
theorem off3_C {I C D : Addr} : ∀ {l : List (Addr × Obj)}, LCg.Off3 I C D l → AllNe C l
  | [], _ => trivial
  | _ :: _, x => ⟨x.1.2.1, off3_C x.2⟩
theorem off3_D {I C D : Addr} : ∀ {l : List (Addr × Obj)}, LCg.Off3 I C D l → AllNe D l
  | [], _ => trivial
  | _ :: _, x => ⟨x.1.2.2, off3_D x.2⟩
/-- the goal under a name -/
theorem hide {G : Prop} (h : ∀ P : Prop, (G → P) → P) : G := h G id
/-- where a walk stops -/
inductive Stops : {α : Type} → Sem α → Prop
  | loop {a b c d e env} : Stops (exec (.For a b c d e) env)
  | iter {v} : Stops (pyIter v)
  | comp {a b c d env} : Stops (eval (.ListComp a b c d) env)
  | item {a b c} : Stops (setItem a b c)
  | named {t a b c d p env} : Stops (exec (.Assign t (.ListComp a b c d) p) env)
  | ne {a b} : Stops (compareOp .NotEq (.ref a) (.ref b))
  | eq {a b} : Stops (compareOp .Eq (.ref a) (.ref b))
  | add {a b} : Stops (binaryOp .Add (.ref a) (.ref b))
  | call {a vs} (h : [91, 98, 105, 112, 147, 182, 187, 194, 201, 206, 213, 218, 223].contains a = true) : Stops (call (.ref a) vs)
theorem stop_at {α : Type} {M : Model} {A : Around} {t : Sem α} {Q : α → Shared → Prop} {E : Value → Shared → Prop} {s : Shared} (_ : Stops t) (h : wpAny M A t Q E s) : wpAny M A t Q E s := h
/-- names and constants, as arguments -/
inductive Plain (env : Env) (m : Str → Option Value) : List Expr → Nat → List Value → Nat → Prop
  | nil {t} : Plain env m [] t [] t
  | name {x p r t v vs u} (hx : env.kindOf x = some .local) (hv : m x = some v) (hd : (x == ("__debug__" : Str)) = false) : Plain env m r t vs u → Plain env m (.Name x p :: r) t (v :: vs) u
  | none {k p r t vs u} : Plain env m r t vs u → Plain env m (.Constant .none k p :: r) t (.none :: vs) u
  | bool {b k p r t vs u} : Plain env m r t vs u → Plain env m (.Constant (.bool b) k p :: r) t (.bool b :: vs) u
  | int {i k p r t vs u} : Plain env m r (t + 1) vs u → Plain env m (.Constant (.int i) k p :: r) t (.int i t :: vs) u
  | str {x k p r t vs u} : Plain env m r (t + 1) vs u → Plain env m (.Constant (.str x) k p :: r) t (.str x t :: vs) u
/-- names and constants alone -/
def simple : List Expr → Bool
  | [] => true
  | .Name _ _ :: r => simple r
  | .Constant _ _ _ :: r => simple r
  | _ => false
theorem args_plain {prog : Program} {w : World} {A : Around} {env : Env} {m : Str → Option Value} {es : List Expr} {vs : List Value} {t u : Nat} {g h : Heap} {gs : Array GenState} {dr : _} {os : _} {pos : Pos} {Q : List Value → Shared → Prop} {E : Value → Shared → Prop}
    (S : simple es = true) (F : Fr g env.locals h m) (hk : env.scope.kind = .function) (P : Plain env m es t vs u) (k : Q vs ⟨h, gs, dr, u, os⟩) : wpAny (model prog w) A (spliced (backTo pos (starEach es env))) Q E ⟨h, gs, dr, t, os⟩ := by
  clear S
  induction P generalizing Q with
  | nil => exact args_nil k
  | name hx hv hd _ ih => exact args_cons (wpAny_Name (wpAny_loadName_local hk hx F.ns hv (ih k)) hd)
  | none _ ih => exact args_cons (wpAny_Constant_none (ih k))
  | bool _ ih => exact args_cons (wpAny_Constant_bool (ih k))
  | int _ ih => exact args_cons (wpAny_Constant_int (ih k))
  | str _ ih => exact args_cons (wpAny_Constant_str (ih k))
local macro_rules | `(tactic| ktr_room) => `(tactic| first | exact room3 (by assumption) (by rfl) | exact room2 (by assumption) (by rfl) | exact room1 (by assumption) | omega | ((try simp only [depth_deeper, depth_in1, units_deeper, units_in1, Around.mark_units]); (try dsimp only [arnd]); first | exact room3 (by assumption) (by rfl) | exact room2 (by assumption) (by rfl) | omega))
local macro_rules | `(tactic| ktr_units) => `(tactic| first | omega | (simp only [List.size_toArray]; omega) | (simp only [List.size_toArray, List.length_cons, List.length_nil] at *; omega))
local macro_rules | `(tactic| k_ne) => `(tactic| first | assumption | exact Ne.symm (by assumption) | exact allLt_ne (by with_reducible assumption) (by k_mem) | exact Ne.symm (allLt_ne (by with_reducible assumption) (by k_mem)) | exact allNe_ne (by with_reducible assumption) (by k_mem) | exact Ne.symm (allNe_ne (by with_reducible assumption) (by k_mem)) | (refine neN ?_; (try dsimp only); first | assumption | omega))
local macro_rules | `(tactic| k_lt $h:ident) => `(tactic| (replace $h := allLt_of $h; have hC' := $h; dsimp only [AllLt] at hC'))
def KeepBut (ms : List Addr) (h h' : Heap) : Prop := ∀ b o, h.get? b = some o → b ∉ ms → h'.get? b = some o
abbrev arnd (dp un : Nat) (gd : Option (List Code)) (fr : Option (List Env)) : Around := { handled := none, depth := dp, frames := fr, guards := gd, units := un }
abbrev tupObj (vs : List Value) (n : Nat) : Obj := { cls := .type "tuple", data := .seq vs.toArray n }
def LeaveM (R : Value → Shared → Prop) (v : Value) (s' : Shared) : Prop := R v s'
def RetQ (R : Value → Shared → Prop) (fl : Flow) (s' : Shared) : Prop := LeaveM R (match fl with | .ret v => v | _ => .none) s'
def ResOf (Q E : Value → Shared → Prop) (r : Result) (s' : Shared) : Prop := match r with | .ok (.ret v) => Q v s' | .ok _ => False | .error e => E e s'

theorem enter {prog : Program} {w : World} {dp un kd ku : Nat} {gd : Option (List Code)} {fr : Option (List Env)} {s : Shared} {h₀ : Heap} {news : List (Addr × Obj)} {K : Frag} {p : Program} {loose : List Str} {mean : ExcName → Option Value} {mg mb : Str → Option Value}
    {Q E : Value → Shared → Prop} {name qual : Str} {params : Arguments} {body : List Stmt} {scope : Scope} {dV kV doc pm cdv ct oc : Value} {an od : Option Addr} {osl : Array (Option Value)} {f : Addr} {args : List Value} {binds : List (Str × Value)}
    (X₀ : K.In h₀) (T : Top p loose mean mg mb h₀) (st : h₀.StaysIn s.heap) (N : ∀ p ∈ news, s.heap.get? p.1 = some p.2) (Nn : ∀ p ∈ news, h₀.get? p.1 = none)
    (ho : K.lookup f = some ⟨oc, od, .func (fnOf name qual params body scope dV kV doc pm an cdv ct), osl⟩) (hcd : codeIn K cdv qual = true) (hroom : dp < recursionLimit)
    (hbind : BindsTo s (fnOf name qual params body scope dV kV doc pm an cdv ct) ⟨args, []⟩ binds) (hloc : ∀ y ∈ binds, scope.names.lookup y.1 = some .local)
    (h : ∀ g L' h₁, h₀.StaysIn g → g.StaysIn s.heap → (∀ b o, s.heap.get? b = some o → b ∉ news.map Prod.fst → g.get? b = some o) → Fr g L' h₁ (fun y => binds.reverse.lookup y) → News g L' h₁ news → K.In g → Top p loose mean mg mb g → s.heap.get? L' = none → (∀ p ∈ news, p.1 < L') →
      ∀ (d' u' : Nat) (fr' : Option (List Env)), d' + kd < recursionLimit → u' + ku < cLine → wpAny (model prog w) (arnd d' u' gd fr') (execs body (envOf qual scope L' f cdv)) (RetQ Q) (fun _ _ => False)
        { s with heap := h₁, toks := s.toks + binds.length })
    (hcell : ∀ x ∈ scope.names, x.2 ≠ .cell) (hco : scope.isCoroutine = false) (hgen : scope.isGenerator = false) (hk : scope.kind = .function)
    (hdd : dp + (kd + 1) < recursionLimit := by assumption) (huu : un + (ku + 3) < cLine := by assumption) :
    wpAny (model prog w) (arnd dp un gd fr) (call (.ref f) args) Q E s := by
  refine wpAny_call ?_
  have nm : ∀ b o, h₀.get? b = some o → b ∉ news.map Prod.fst := fun b o e q => by
    obtain ⟨p, hp, rfl⟩ := List.mem_map.mp q
    rw [Nn p hp] at e; cases e
  have stg : h₀.StaysIn (hideAll s.heap (news.map Prod.fst)) := fun b o e => hideAll_get _ (st b o e) (nm b o e)
  refine codeAny_call_def (fd := fnOf name qual params body scope dV kV doc pm an cdv ct) (body := body) (binds := binds) hroom ((X₀.keeps st) _ _ ho) rfl (T.nolimit.keeps st) (codeRec_of (X₀.keeps st) hcd) rfl hbind hcell hloc (fun h₁ hns hk₁ => ?_) hco hgen hk
  refine wpAny_mono (h (hideAll s.heap (news.map Prod.fst)) s.heap.objs.size h₁ stg (fun b o e => of_hideAll _ e) (fun b o e q => hideAll_get _ e q) ⟨hns, fun b o e => hk₁ b o (of_hideAll _ e), Nat.le_of_eq (hideAll_size _ _)⟩
    (fun p hp => ⟨hk₁ _ _ (N p hp), Nat.ne_of_lt (Heap.lt_size (N p hp)), hideAll_none _ (List.mem_map_of_mem hp)⟩) (X₀.keeps stg) (T.keeps stg) (Heap.get?_none_of_le (Nat.le_refl _)) (fun p hp => Heap.lt_size (N p hp)) (dp + 1) (un + 3) _ (by omega) (by omega)) (fun fl s' hl => hl) fun _ _ y => y.elim

section
variable {prog : Program} {w : World} {A : Around} {E : Value → Shared → Prop} {s : Shared} {g : Heap} {L : Addr} {m : Str → Option Value}
theorem itemL_base {value slice : Expr} {a : Addr} {l : List Value} {k : Int} {u : Tok} {Q : Value → Shared → Prop} (F : Fr g L s.heap m) (hl : g.IsList a l.toArray)
    (h0 : 0 ≤ k) (h1 : k < l.length) (hz : (l.length : Int) < 2 ^ 62) (h : ∀ x, l[k.toNat]? = some x → Q x s)
    (hs : subscripted slice false (.ref a) (.int k u) = operate [.ref a, .int k u] (getItem (.ref a) (.int k u)) := by with_unfolding_all rfl) :
    wpAny (model prog w) A (subscriptTail value slice (.ref a) (.int k u)) Q E s := by
  have hk : k.toNat < l.length := by omega
  exact tail_any (F.lst hl).typeIs slot_list_getitem.lookup (wpAny_getItem_list (F.lst hl) h0 (by omega) (x := l[k.toNat]) (by simp [hk]) (h _ (by simp [hk]))) hs
end
theorem fresh_of {g h h' : Heap} {L r src : Addr} {o : Obj} {news : List (Addr × Obj)} (keep : ∀ b o, h.get? b = some o → b ∉ [src] → g.get? b = some o) (N : News g L h' news) (hm : (r, o) ∈ news) (hne : r ≠ src) : h.get? r = none := by
  cases e : h.get? r with
  | none => rfl
  | some o' => have := keep r o' e (by simpa using hne); rw [(N _ hm).2.2] at this; cases this
theorem keep_of {g h h' : Heap} {L : Addr} {src : Addr} {m : Str → Option Value} (keep : ∀ b o, h.get? b = some o → b ∉ [src] → g.get? b = some o) (F : Fr g L h' m) : KeepBut [src] h h' := fun b o e hb => F.keep b o (keep b o e hb)
theorem enterC0 {prog : Program} {w : World} {dp un kd ku : Nat} {gd : Option (List Code)} {fr : Option (List Env)} {s : Shared} {h₀ : Heap} {news : List (Addr × Obj)} {K : Frag} {p : Program} {loose : List Str} {mean : ExcName → Option Value} {mg mb : Str → Option Value}
    {Q E : Value → Shared → Prop} {name qual : Str} {params : Arguments} {body : List Stmt} {scope : Scope} {dV kV doc pm cdv ct oc : Value} {an od : Option Addr} {osl : Array (Option Value)} {f : Addr} {args : List Value} {binds : List (Str × Value)}
    (X₀ : K.In h₀) (T : Top p loose mean mg mb h₀) (st : h₀.StaysIn s.heap) (N : ∀ p ∈ news, s.heap.get? p.1 = some p.2) (Nn : ∀ p ∈ news, h₀.get? p.1 = none)
    (ho : K.lookup f = some ⟨oc, od, .func (fnOf name qual params body scope dV kV doc pm an cdv ct), osl⟩) (hcd : codeIn K cdv qual = true) (hroom : dp < recursionLimit)
    (hbind : BindsTo s (fnOf name qual params body scope dV kV doc pm an cdv ct) ⟨args, []⟩ binds)
    (hkind : (binds.all fun y => scope.names.lookup y.1 == some .local || scope.names.lookup y.1 == some .cell) = true)
    (hnd : ((cellsFrom 0 scope.names []).map Prod.fst).Nodup)
    (h : ∀ g L' h₁ tk cells, h₀.StaysIn g → g.StaysIn s.heap → (∀ b o, s.heap.get? b = some o → b ∉ news.map Prod.fst → g.get? b = some o) → Fr g L' h₁ (bindL (envOfC qual scope L' f cdv).kindOf binds fun _ => none) → News g L' h₁ (cells ++ news) →
      CellsAre (bindC (envOfC qual scope L' f cdv).kindOf binds fun _ => none) (cellsFrom (L' + 1) scope.names []) cells → K.In g → Top p loose mean mg mb g → s.heap.get? L' = none → (∀ p ∈ news, p.1 < L') →
      ∀ (d' u' : Nat), d' + kd < recursionLimit → u' + ku < cLine → wpAny (model prog w) (arnd d' u' gd (fr.map (envOfC qual scope L' f cdv :: ·))) (execs body (envOfC qual scope L' f cdv)) (RetQ Q) (fun _ _ => False)
        { s with heap := h₁, toks := tk })
    (hco : scope.isCoroutine = false) (hgen : scope.isGenerator = false) (hk : scope.kind = .function)
    (hdd : dp + (kd + 1) < recursionLimit := by assumption) (huu : un + (ku + 3) < cLine := by assumption) :
    wpAny (model prog w) (arnd dp un gd fr) (call (.ref f) args) Q E s := by
  refine wpAny_call ?_
  have nm : ∀ b o, h₀.get? b = some o → b ∉ news.map Prod.fst := fun b o e q => by
    obtain ⟨p, hp, rfl⟩ := List.mem_map.mp q
    rw [Nn p hp] at e; cases e
  have stg : h₀.StaysIn (hideAll s.heap (news.map Prod.fst)) := fun b o e => hideAll_get _ (st b o e) (nm b o e)
  refine codeAny_call_function hroom ((X₀.keeps st) _ _ ho) rfl hco hgen rfl (codeRec_of (X₀.keeps st) hcd) (hbind _ _ _ _ ?_)
  refine wpAny_newFunctionEnv_cells hk (kindsX hkind _) fun env' he s' x => ?_
  subst he
  refine ⟨(T.nolimit.keeps st).keeps x.toInCall.keep, codeAny_func ?_⟩
  refine hide (fun P9 toP9 => ?_)
  obtain ⟨h₁, tk, rfl, _⟩ := x.done
  have hk₁ := x.toInCall.keep
  obtain ⟨cells, NC, Y⟩ := Cl.news (h₀ := s.heap) (Nat.le_refl _) fun n c hm => ⟨x.cell n c (lookup_of_mem_nodup (cellsFrom_names scope.names 0 (s.heap.objs.size + 1) [] [] rfl ▸ hnd) hm), x.above n c hm⟩
  (refine toP9 ?_; clear toP9 P9)
  refine wpAny_mono (h (hideAll s.heap (news.map Prod.fst)) s.heap.objs.size h₁ tk cells stg (fun b o e => of_hideAll _ e) (fun b o e q => hideAll_get _ e q) ⟨x.toInCall.ns, fun b o e => hk₁ b o (of_hideAll _ e), Nat.le_of_eq (hideAll_size _ _)⟩
    (fun p hp => ?_) Y (X₀.keeps stg) (T.keeps stg) (Heap.get?_none_of_le (Nat.le_refl _)) (fun p hp => Heap.lt_size (N p hp)) (dp + 1) (un + 3) (by omega) (by omega)) (fun fl s' hl => hl) fun _ _ y => y.elim
  rcases List.mem_append.mp hp with hp | hp
  · refine ⟨(NC p hp).1, (NC p hp).2.1, ?_⟩
    cases q : (hideAll s.heap (news.map Prod.fst)).get? p.1 with
    | none => rfl
    | some o => have := of_hideAll _ q; rw [(NC p hp).2.2] at this; cases this
  · exact ⟨hk₁ _ _ (N p hp), Nat.ne_of_lt (Heap.lt_size (N p hp)), hideAll_none _ (List.mem_map_of_mem hp)⟩
theorem enterC {prog : Program} {w : World} {dp un kd ku : Nat} {gd : Option (List Code)} {fr : Option (List Env)} {s : Shared} {h₀ : Heap} {news : List (Addr × Obj)} {K : Frag} {p : Program} {loose : List Str} {mean : ExcName → Option Value} {mg mb : Str → Option Value}
    {Q E : Value → Shared → Prop} {name qual : Str} {params : Arguments} {body : List Stmt} {scope : Scope} {dV kV doc pm cdv ct oc : Value} {an od : Option Addr} {osl : Array (Option Value)} {f : Addr} {args : List Value} {binds : List (Str × Value)}
    (X₀ : K.In h₀) (T : Top p loose mean mg mb h₀) (st : h₀.StaysIn s.heap) (N : ∀ p ∈ news, s.heap.get? p.1 = some p.2) (Nn : ∀ p ∈ news, h₀.get? p.1 = none)
    (ho : K.lookup f = some ⟨oc, od, .func (fnOf name qual params body scope dV kV doc pm an cdv ct), osl⟩) (hcd : codeIn K cdv qual = true) (hroom : dp < recursionLimit)
    (hbind : BindsTo s (fnOf name qual params body scope dV kV doc pm an cdv ct) ⟨args, []⟩ binds)
    (hkind : (binds.all fun y => scope.names.lookup y.1 == some .local || scope.names.lookup y.1 == some .cell) = true)
    (hnd : ((cellsFrom 0 scope.names []).map Prod.fst).Nodup)
    (h : ∀ g L' h₁ tk cells, h₀.StaysIn g → g.StaysIn s.heap → (∀ b o, s.heap.get? b = some o → b ∉ news.map Prod.fst → g.get? b = some o) → Fr g L' h₁ (bindL (envOfC qual scope L' f cdv).kindOf binds fun _ => none) → News g L' h₁ (cells ++ news) →
      CellsAre (bindC (envOfC qual scope L' f cdv).kindOf binds fun _ => none) (cellsFrom (L' + 1) scope.names []) cells → K.In g → Top p loose mean mg mb g → s.heap.get? L' = none → (∀ p ∈ news, p.1 < L') →
      ∀ (d' u' : Nat) (fr' : Option (List Env)), d' + kd < recursionLimit → u' + ku < cLine → wpAny (model prog w) (arnd d' u' gd fr') (execs body (envOfC qual scope L' f cdv)) (RetQ Q) (fun _ _ => False)
        { s with heap := h₁, toks := tk })
    (hco : scope.isCoroutine = false) (hgen : scope.isGenerator = false) (hk : scope.kind = .function)
    (hdd : dp + (kd + 1) < recursionLimit := by assumption) (huu : un + (ku + 3) < cLine := by assumption) :
    wpAny (model prog w) (arnd dp un gd fr) (call (.ref f) args) Q E s :=
  enterC0 X₀ T st N Nn ho hcd hroom hbind hkind hnd (fun g L' h₁ tk cells a1 a2 a3 a4 a5 a6 a7 a8 a9 a10 d' u' x y => h g L' h₁ tk cells a1 a2 a3 a4 a5 a6 a7 a8 a9 a10 d' u' _ x y) hco hgen hk hdd huu
/-- the source list of two ints -/
def SrcObj (o : Obj) : Prop := ∃ p q t1 t2 n, o = listOf #[.int p t1, .int q t2] n
def SrcOk (h : Heap) (src : Addr) : Prop := ∃ o, h.get? src = some o ∧ SrcObj o
theorem mulok (p q b : Int) : PySem.IntMulOk ([p, q.fmod 2147483647].getD (Int.toNat 1) 0) b := by
  refine PySem.IntMulOk.of_left (PySem.intBits_le_64 ?_ ?_)
  · show _ < q.fmod 2147483647
    rw [Int.fmod_eq_emod_of_nonneg _ (by decide)]; have := Int.emod_nonneg q (b := 2147483647) (by decide); omega
  · show q.fmod 2147483647 < _
    rw [Int.fmod_eq_emod_of_nonneg _ (by decide)]; have := Int.emod_lt_of_pos q (b := 2147483647) (by decide); omega
theorem fmod_in (a : Int) {b : Int} (h : 0 < b) : 0 ≤ a.fmod b ∧ a.fmod b < b := by
  rw [Int.fmod_eq_emod_of_nonneg _ (Int.le_of_lt h)]
  exact ⟨Int.emod_nonneg _ (by omega), Int.emod_lt_of_pos _ h⟩
section
set_option maxRecDepth 100000 in
set_option maxHeartbeats 8000000 in
theorem take_ok {w : World} {mean : ExcName → Option Value} {mg mb : Str → Option Value} {h₀ : Heap} {s : Shared} {dp un : Nat} {gd : Option (List Code)} {fr : Option (List Env)} {src : Addr} {top : Int} {tt : Tok} {Q E : Value → Shared → Prop}
    (X : (Mine.hd.heap_1 w.params).In h₀) (T : Top Mine.vw (looseW Mine.vw []) mean mg mb h₀) (st : h₀.StaysIn s.heap) (hn : h₀.get? src = none) (hs : SrcOk s.heap src)
    (hd : dp + 1 < recursionLimit) (hu : un + 100 < cLine) (h0 : 0 < top) (h1 : top < 1000)
    (hQ : ∀ r t' h' tk', 0 ≤ r → r < top → KeepBut [src] s.heap h' → SrcOk h' src → Q (.int r t') { s with heap := h', toks := tk' }) :
    wpAny (model PySem.Challenge.pw_xm0585_01 w) (arnd dp un gd fr) (call (.ref 154) [.ref src, .int top tt]) Q E s := by
  refine hide (fun P9 toP9 => ?_)
  obtain ⟨o, hs, p, q, t1, t2, n, rfl⟩ := hs
  (refine toP9 ?_; clear toP9 P9)
  refine' enter (news := [(src, listOf #[.int p t1, .int q t2] n)]) X T st ?N ?Nn ?ho ?hcd ?hroom ?hbind ?hloc ?_ ?c2 ?c3 ?c4 ?c5
  case N => intro p hp; rw [List.mem_singleton.mp hp]; exact hs
  case Nn => intro p hp; rw [List.mem_singleton.mp hp]; exact hn
  case ho => k_dflt k_is
  case hcd => k_dflt k_is
  case hroom => show dp < recursionLimit; omega
  case hbind => exact BindsTo.of_eq rfl
  case c2 => decide
  case c3 => exact rfl
  case c4 => exact rfl
  case c5 => exact rfl
  case hloc => exact locs rfl
  intro g L' h₁ st1 st2 keep F' N' X' T' nL l1 d' u' fr' hd' hu'
  change Fr _ _ _ (fun y => List.lookup y [(_, _), (_, _)]) at F'
  k_lt l1
  (try dsimp only)
  (repeat' (first | (k_unfold; (try dsimp only)) | (k_end; wrow_close) | ((first | ((with_reducible show wpAny _ _ (binaryOp Operator.Mult (Value.int _ _) (Value.int _ _)) _ _ _); refine mul_int ?_ (mulok _ _ _)) | walk1) <;> first | (with_reducible show wpAny _ _ (subscriptTail _ (PySem.Expr.Slice _ _ _ _) _ _) _ _ _) | (try dsimp only)) | (dsimp only; walk1) | (leave1; try dsimp only) | fail "no step"))
  all_goals (try dsimp only)
  all_goals (rename Fr _ _ _ _ => F; rename News _ _ _ _ => N)
  all_goals exact hQ _ _ _ _ (fmod_in _ h0).1 (fmod_in _ h0).2 (fun b o e hb => F.keep b o (keep b o e (by simpa using hb))) ⟨_, N.get (.head _), _, _, _, _, _, rfl⟩
end
section
variable {g : Heap} {L : Addr} {m : Str → Option Value} {news : List (Addr × Obj)} {src : Addr} {s : Shared} {h' : Heap} {o o' : Obj}
/-- back in the caller's frame behind a call that turned the source list alone -/
theorem back_src {news' : List (Addr × Obj)} (F : Fr g L s.heap m) (N : News g L s.heap news) (hm : (src, o) ∈ news) (k : KeepBut [src] s.heap h') (e : h'.get? src = some o') (U : Upd src o o' news news') :
    Fr g L h' m ∧ News g L h' news' := by
  have hx := N _ hm
  refine ⟨⟨F.ns.at' fun o e => k _ _ e (by simpa using Ne.symm hx.2.1), fun b o e => k _ _ (F.keep b o e) (fun q => ?_), F.above⟩, ?_⟩
  · rw [List.mem_singleton.mp q] at e; rw [hx.2.2] at e; cases e
  · obtain ⟨pre, post, rfl, rfl, h1, h2⟩ := U.split
    intro p hp
    rcases List.mem_append.mp hp with q | q
    · have P := N p (List.mem_append_left _ q); exact ⟨k _ _ P.1 (by simpa using h1 p q), P.2⟩
    · rcases List.mem_cons.mp q with rfl | q
      · exact ⟨e, hx.2⟩
      · have P := N p (List.mem_append_right _ (.tail _ q)); exact ⟨k _ _ P.1 (by simpa using h2 p q), P.2⟩
end
section
variable {w : World} {mean : ExcName → Option Value} {mg mb : Str → Option Value} {g : Heap} {L : Addr} {m : Str → Option Value} {news : List (Addr × Obj)} {s : Shared} {dp un : Nat} {gd : Option (List Code)} {fr : Option (List Env)} {src : Addr} {Q E : Value → Shared → Prop} {o : Obj}
theorem take_use {news' : Obj → List (Addr × Obj)} {top : Int} {tt : Tok} (F : Fr g L s.heap m) (X : (Mine.hd.heap_1 w.params).In g) (T : Top Mine.vw (looseW Mine.vw []) mean mg mb g) (N : News g L s.heap news) (hm : (src, o) ∈ news) (ho : SrcObj o)
    (U : ∀ o', Upd src o o' news (news' o')) (hd : dp + 1 < recursionLimit) (hu : un + 100 < cLine) (h0 : 0 < top) (h1 : top < 1000)
    (ret : ∀ r t' h' tk' o', 0 ≤ r → r < top → Fr g L h' m → News g L h' (news' o') → SrcObj o' → Q (.int r t') { s with heap := h', toks := tk' }) :
    wpAny (model PySem.Challenge.pw_xm0585_01 w) (arnd dp un gd fr) (call (.ref 154) [.ref src, .int top tt]) Q E s := by
  refine take_ok X T F.keep (N _ hm).2.2 ⟨o, (N _ hm).1, ho⟩ hd hu h0 h1 fun r t' h' tk' r0 r1 k hs => ?_
  refine hide (fun P9 toP9 => ?_)
  obtain ⟨o', e, ho'⟩ := hs
  obtain ⟨F', N'⟩ := back_src F N hm k e (U o')
  (refine toP9 ?_; clear toP9 P9)
  exact ret r t' h' tk' o' r0 r1 F' N' ho'
end
set_option maxRecDepth 100000 in
set_option maxHeartbeats 8000000 in
theorem one_ok {w : World} {mean : ExcName → Option Value} {mg mb : Str → Option Value} {h₀ : Heap} {s : Shared} {dp un : Nat} {gd : Option (List Code)} {fr : Option (List Env)} {src th : Addr} {vs : List Value} {Q E : Value → Shared → Prop}
    (X : (Mine.hd.heap_1 w.params).In h₀) (T : Top Mine.vw (looseW Mine.vw []) mean mg mb h₀) (st : h₀.StaysIn s.heap) (hn : h₀.get? src = none) (hs : SrcOk s.heap src) (hth : s.heap.IsList th vs.toArray) (hne : th ≠ src)
    (hd : dp + 2 < recursionLimit) (hu : un + 110 < cLine) (h0 : 0 < vs.length) (h1 : vs.length < 1000)
    (hQ : ∀ v h' tk', v ∈ vs → KeepBut [src] s.heap h' → SrcOk h' src → Q v { s with heap := h', toks := tk' }) :
    wpAny (model PySem.Challenge.pw_xm0585_01 w) (arnd dp un gd fr) (call (.ref 161) [.ref src, .ref th]) Q E s := by
  refine hide (fun P9 toP9 => ?_)
  obtain ⟨o, hs, hso⟩ := hs
  (refine toP9 ?_; clear toP9 P9)
  refine' enter (news := [(src, o)]) X T st ?N ?Nn ?ho ?hcd ?hroom ?hbind ?hloc ?_ ?c2 ?c3 ?c4 ?c5
  case N => intro p hp; rw [List.mem_singleton.mp hp]; exact hs
  case Nn => intro p hp; rw [List.mem_singleton.mp hp]; exact hn
  ((case ho => k_dflt k_is); (case hcd => k_dflt k_is); (case hroom => ktr_room); (case hbind => exact BindsTo.of_eq rfl); (case c2 => decide); (case c3 => exact rfl); (case c4 => exact rfl); (case c5 => exact rfl); (case hloc => exact locs rfl))
  intro g L' h₁ st1 st2 keep F' N' X' T' nL l1 d' u' fr' hd' hu'
  change Fr _ _ _ (fun y => List.lookup y [(_, _), (_, _)]) at F'
  k_lt l1
  have hg : g.IsList th vs.toArray := hth.at fun o e => keep _ o e (by simpa using hne)
  (try dsimp only)
  (repeat' (first | (k_unfold; (try dsimp only)) | (k_end; wrow_close) | ((first | ((with_reducible show wpAny _ _ (call (Value.ref 154) _) _ _ _); refine take_use (by k_asm) (by k_asm) (by k_asm) (by k_asm) (by k_mem) (by assumption) (by intro ozz9; k_upd) (by ktr_room) (by ktr_room) (by first | decide | ktr_units | assumption) (by first | decide | ktr_units | assumption) ?_; k_whole; intro rzz9 tzz9 hzz9 tkzz9 ozz9 hr0zz9 hr1zz9 Fzz9 Nzz9 hozz9; (try dsimp only at Nzz9); (try k_sweep)) | ((with_reducible show wpAny _ _ (subscriptTail _ _ (Value.ref _) (Value.int _ _)) _ _ _); refine itemL_base (by k_asm) (by assumption) (by ktr_units) (by ktr_units) (by ktr_units) ?_; k_whole; intro vzz9 hvzz9) | ((with_reducible show wpAny _ _ (call (Value.builtin "len") [Value.ref _]) _ _ _); refine PyProof.Rows.len_list (Fr.lst (by k_asm) (by assumption)) (by ktr_units) ?_; k_whole) | ((with_reducible show wpAny _ _ (spliced _) _ _ _); refine' args_plain ?qSS ?qFF ?qkk ?qPP ?_; (case qSS => rfl); (case qFF => k_asm); (case qkk => rfl); (case qPP => repeat' first | exact Plain.nil | (apply Plain.name; exact rfl; exact rfl; decide) | apply Plain.none | apply Plain.bool | apply Plain.int | apply Plain.str); k_whole; (try dsimp only [List.cons_append, List.nil_append])) | walk1) <;> first | (with_reducible show wpAny _ _ (subscriptTail _ (PySem.Expr.Slice _ _ _ _) _ _) _ _ _) | (try dsimp only)) | (dsimp only; walk1) | (leave1; try dsimp only) | fail "no step"))
  all_goals (try dsimp only)
  (rename Fr _ _ _ _ => F; rename News _ _ _ _ => N)
  exact hQ _ _ _ (List.mem_of_getElem? (by assumption)) (keep_of keep F) ⟨_, N.get (.head _), by assumption⟩
section
variable {w : World} {mean : ExcName → Option Value} {mg mb : Str → Option Value} {g : Heap} {L : Addr} {m : Str → Option Value} {news : List (Addr × Obj)} {s : Shared} {dp un : Nat} {gd : Option (List Code)} {fr : Option (List Env)} {src : Addr} {Q E : Value → Shared → Prop} {o : Obj}
theorem one_use {news' : Obj → List (Addr × Obj)} {th : Addr} {vs : List Value} (F : Fr g L s.heap m) (X : (Mine.hd.heap_1 w.params).In g) (T : Top Mine.vw (looseW Mine.vw []) mean mg mb g) (N : News g L s.heap news) (hm : (src, o) ∈ news) (ho : SrcObj o)
    (hth : s.heap.IsList th vs.toArray) (hne : th ≠ src)
    (U : ∀ o', Upd src o o' news (news' o')) (hd : dp + 2 < recursionLimit) (hu : un + 110 < cLine) (h0 : 0 < vs.length) (h1 : vs.length < 1000)
    (ret : ∀ v, v ∈ vs → ∀ h' tk' o', Fr g L h' m → News g L h' (news' o') → SrcObj o' → Q v { s with heap := h', toks := tk' }) :
    wpAny (model PySem.Challenge.pw_xm0585_01 w) (arnd dp un gd fr) (call (.ref 161) [.ref src, .ref th]) Q E s := by
  refine one_ok X T F.keep (N _ hm).2.2 ⟨o, (N _ hm).1, ho⟩ hth hne hd hu h0 h1 fun v h' tk' hv k hs => ?_
  refine hide (fun P9 toP9 => ?_)
  obtain ⟨o', e, ho'⟩ := hs
  obtain ⟨F', N'⟩ := back_src F N hm k e (U o')
  (refine toP9 ?_; clear toP9 P9)
  exact ret v hv h' tk' o' F' N' ho'
end
theorem mem_two {P : Value → Prop} {x : Value} (h1 : P .none) (h2 : P x) : ∀ v, v ∈ [Value.none, x] → P v := fun v h => by
  rcases List.mem_cons.mp h with rfl | h
  · exact h1
  · exact List.mem_singleton.mp h ▸ h2
set_option maxRecDepth 100000 in
set_option maxHeartbeats 8000000 in
theorem place_ok {w : World} {mean : ExcName → Option Value} {mg mb : Str → Option Value} {h₀ : Heap} {s : Shared} {dp un : Nat} {gd : Option (List Code)} {fr : Option (List Env)} {src : Addr} {Q E : Value → Shared → Prop}
    (X : (Mine.hd.heap_1 w.params).In h₀) (T : Top Mine.vw (looseW Mine.vw []) mean mg mb h₀) (st : h₀.StaysIn s.heap) (hn : h₀.get? src = none) (hs : SrcOk s.heap src)
    (hd : dp + 3 < recursionLimit) (hu : un + 120 < cLine)
    (hQ : ∀ r k t sv n h' tk', KeepBut [src] s.heap h' → SrcOk h' src → s.heap.get? r = none → h'.get? r = some (tupObj [.int k t, sv] n) → Q (.ref r) { s with heap := h', toks := tk' }) :
    wpAny (model PySem.Challenge.pw_xm0585_01 w) (arnd dp un gd fr) (call (.ref 168) [.ref src]) Q E s := by
  obtain ⟨o, hs, hso⟩ := hs
  refine' enter (news := [(src, o)]) X T st ?N ?Nn ?ho ?hcd ?hroom ?hbind ?hloc ?_ ?c2 ?c3 ?c4 ?c5
  case N => intro p hp; rw [List.mem_singleton.mp hp]; exact hs
  case Nn => intro p hp; rw [List.mem_singleton.mp hp]; exact hn
  ((case ho => k_dflt k_is); (case hcd => k_dflt k_is); (case hroom => ktr_room); (case hbind => exact BindsTo.of_eq rfl); (case c2 => decide); (case c3 => exact rfl); (case c4 => exact rfl); (case c5 => exact rfl); (case hloc => exact locs rfl))
  intro g L' h₁ st1 st2 keep F' N' X' T' nL l1 d' u' fr' hd' hu'
  change Fr _ _ _ (fun y => List.lookup y [(_, _)]) at F'
  k_lt l1
  (try dsimp only)
  (repeat' (first | (k_unfold; (try dsimp only)) | (k_end; wrow_close) | ((first | ((with_reducible show wpAny _ _ (call (Value.ref 161) _) _ _ _); refine one_use (by k_asm) (by k_asm) (by k_asm) (by k_asm) (by k_mem) (by assumption) (News.isList (by k_asm) (by k_mem)) (by k_ne) (by intro ozz9; k_upd) (by ktr_room) (by ktr_room) (by first | decide | ktr_units) (by first | decide | ktr_units) ?_; k_whole; (first | refine mem_two ?_ ?_ | (intro vzz9 hvzz9)) <;> (intro hzz9 tkzz9 ozz9 Fzz9 Nzz9 hozz9; (try dsimp only at Nzz9); (try k_sweep))) | ((with_reducible show wpAny _ _ (call (Value.ref 154) _) _ _ _); refine take_use (by k_asm) (by k_asm) (by k_asm) (by k_asm) (by k_mem) (by assumption) (by intro ozz9; k_upd) (by ktr_room) (by ktr_room) (by first | decide | ktr_units | assumption) (by first | decide | ktr_units | assumption) ?_; k_whole; intro rzz9 tzz9 hzz9 tkzz9 ozz9 hr0zz9 hr1zz9 Fzz9 Nzz9 hozz9; (try dsimp only at Nzz9); (try k_sweep)) | ((with_reducible show wpAny _ _ (spliced _) _ _ _); refine' args_plain ?qSS ?qFF ?qkk ?qPP ?_; (case qSS => rfl); (case qFF => k_asm); (case qkk => rfl); (case qPP => repeat' first | exact Plain.nil | (apply Plain.name; exact rfl; exact rfl; decide) | apply Plain.none | apply Plain.bool | apply Plain.int | apply Plain.str); k_whole; (try dsimp only [List.cons_append, List.nil_append])) | walk1) <;> first | (with_reducible show wpAny _ _ (subscriptTail _ (PySem.Expr.Slice _ _ _ _) _ _) _ _ _) | (try dsimp only)) | (dsimp only; walk1) | (leave1; try dsimp only) | fail "no step"))
  all_goals (try dsimp only)
  (rename Fr _ _ _ _ => F; rename News _ _ _ _ => N)
  exact hQ _ _ _ _ _ _ _ (keep_of keep F) ⟨_, N.get (by k_mem), by assumption⟩ (fresh_of keep N (.head _) (by k_ne)) (N.get (.head _))
section
variable {w : World} {mean : ExcName → Option Value} {mg mb : Str → Option Value} {g : Heap} {L : Addr} {m : Str → Option Value} {news : List (Addr × Obj)} {s : Shared} {dp un : Nat} {gd : Option (List Code)} {fr : Option (List Env)} {src : Addr} {Q E : Value → Shared → Prop} {o : Obj}
/-- a fresh object of the callee's goes onto the ledger -/
theorem news_more {h h' : Heap} {news' : List (Addr × Obj)} {r : Addr} {x : Obj} (F : Fr g L h m) (N : News g L h' news') (hr : h.get? r = none) (e : h'.get? r = some x) : News g L h' ((r, x) :: news') := by
  intro p hp
  rcases List.mem_cons.mp hp with rfl | hp
  · refine ⟨e, fun q => ?_, ?_⟩
    · obtain ⟨_, _, _, hL, _⟩ := F.ns; rw [← q] at hL; rw [hr] at hL; cases hL
    · cases q : g.get? r with
      | none => rfl
      | some o' => have := F.keep _ _ q; rw [hr] at this; cases this
  · exact N p hp
theorem news_off {h : Heap} {r : Addr} (N : News g L h news) (hr : h.get? r = none) : ∀ p ∈ news, p.1 ≠ r := fun p hp q => by have := (N p hp).1; rw [q, hr] at this; cases this
theorem place_use {news' : Obj → List (Addr × Obj)} (F : Fr g L s.heap m) (X : (Mine.hd.heap_1 w.params).In g) (T : Top Mine.vw (looseW Mine.vw []) mean mg mb g) (N : News g L s.heap news) (hm : (src, o) ∈ news) (ho : SrcObj o)
    (U : ∀ o', Upd src o o' news (news' o')) (hd : dp + 3 < recursionLimit) (hu : un + 120 < cLine)
    (ret : ∀ r k t sv n h' tk' o', AllNe r news → Fr g L h' m → News g L h' ((r, tupObj [.int k t, sv] n) :: news' o') → SrcObj o' → Q (.ref r) { s with heap := h', toks := tk' }) :
    wpAny (model PySem.Challenge.pw_xm0585_01 w) (arnd dp un gd fr) (call (.ref 168) [.ref src]) Q E s := by
  refine place_ok X T F.keep (N _ hm).2.2 ⟨o, (N _ hm).1, ho⟩ hd hu fun r k t sv n h' tk' kb hs hr e' => ?_
  obtain ⟨o', e, ho'⟩ := hs
  obtain ⟨F', N'⟩ := back_src F N hm kb e (U o')
  exact ret r k t sv n h' tk' o' (.of (news_off N hr)) F' (news_more F N' hr e') ho'
end
set_option maxRecDepth 100000 in
set_option maxHeartbeats 8000000 in
theorem operand_ok {w : World} {mean : ExcName → Option Value} {mg mb : Str → Option Value} {h₀ : Heap} {s : Shared} {dp un : Nat} {gd : Option (List Code)} {fr : Option (List Env)} {src : Addr} {Q E : Value → Shared → Prop}
    (X : (Mine.hd.heap_1 w.params).In h₀) (T : Top Mine.vw (looseW Mine.vw []) mean mg mb h₀) (st : h₀.StaysIn s.heap) (hn : h₀.get? src = none) (hs : SrcOk s.heap src)
    (hd : dp + 4 < recursionLimit) (hu : un + 130 < cLine)
    (hQ : ∀ r h' tk', KeepBut [src] s.heap h' → SrcOk h' src → Q (.ref r) { s with heap := h', toks := tk' }) :
    wpAny (model PySem.Challenge.pw_xm0585_01 w) (arnd dp un gd fr) (call (.ref 175) [.ref src]) Q E s := by
  obtain ⟨o, hs, hso⟩ := hs
  refine' enter (news := [(src, o)]) X T st ?N ?Nn ?ho ?hcd ?hroom ?hbind ?hloc ?_ ?c2 ?c3 ?c4 ?c5
  case N => intro p hp; rw [List.mem_singleton.mp hp]; exact hs
  case Nn => intro p hp; rw [List.mem_singleton.mp hp]; exact hn
  ((case ho => k_dflt k_is); (case hcd => k_dflt k_is); (case hroom => ktr_room); (case hbind => exact BindsTo.of_eq rfl); (case c2 => decide); (case c3 => exact rfl); (case c4 => exact rfl); (case c5 => exact rfl); (case hloc => exact locs rfl))
  intro g L' h₁ st1 st2 keep F' N' X' T' nL l1 d' u' fr' hd' hu'
  change Fr _ _ _ (fun y => List.lookup y [(_, _)]) at F'
  k_lt l1
  (try dsimp only)
  (repeat' (first | (k_unfold; (try dsimp only)) | (k_end; wrow_close) | ((first | ((with_reducible show wpAny _ _ (call (Value.ref 168) _) _ _ _); refine place_use (by k_asm) (by k_asm) (by k_asm) (by k_asm) (by k_mem) (by assumption) (by intro ozz9; k_upd) (by ktr_room) (by ktr_room) ?_; k_whole; intro rzz9 kzz9 tzz9 svzz9 nzz9 hzz9 tkzz9 ozz9 hlzz9 Fzz9 Nzz9 hozz9; (try dsimp only at Nzz9); (try k_sweep)) | ((with_reducible show wpAny _ _ (call (Value.ref 161) _) _ _ _); refine one_use (by k_asm) (by k_asm) (by k_asm) (by k_asm) (by k_mem) (by assumption) (News.isList (by k_asm) (by k_mem)) (by k_ne) (by intro ozz9; k_upd) (by ktr_room) (by ktr_room) (by first | decide | ktr_units) (by first | decide | ktr_units) ?_; k_whole; (first | refine mem_two ?_ ?_ | (intro vzz9 hvzz9)) <;> (intro hzz9 tkzz9 ozz9 Fzz9 Nzz9 hozz9; (try dsimp only at Nzz9); (try k_sweep))) | ((with_reducible show wpAny _ _ (spliced _) _ _ _); refine' args_plain ?qSS ?qFF ?qkk ?qPP ?_; (case qSS => rfl); (case qFF => k_asm); (case qkk => rfl); (case qPP => repeat' first | exact Plain.nil | (apply Plain.name; exact rfl; exact rfl; decide) | apply Plain.none | apply Plain.bool | apply Plain.int | apply Plain.str); k_whole; (try dsimp only [List.cons_append, List.nil_append])) | walk1) <;> first | (with_reducible show wpAny _ _ (subscriptTail _ (PySem.Expr.Slice _ _ _ _) _ _) _ _ _) | (try dsimp only)) | (dsimp only; walk1) | (leave1; try dsimp only) | fail "no step"))
  all_goals (try dsimp only)
  (rename Fr _ _ _ _ => F; rename News _ _ _ _ => N; rename SrcObj _ => O; rename _ ∈ [_, _, _] => hv)
  (simp only [List.mem_cons, List.not_mem_nil, or_false] at hv)
  rcases hv with rfl | rfl | rfl
  all_goals exact hQ _ _ _ (keep_of keep F) ⟨_, N.get (by k_mem), O⟩
section
variable {w : World} {mean : ExcName → Option Value} {mg mb : Str → Option Value} {g : Heap} {L : Addr} {m : Str → Option Value} {news : List (Addr × Obj)} {s : Shared} {dp un : Nat} {gd : Option (List Code)} {fr : Option (List Env)} {src : Addr} {Q E : Value → Shared → Prop} {o : Obj}
theorem operand_use {news' : Obj → List (Addr × Obj)} (F : Fr g L s.heap m) (X : (Mine.hd.heap_1 w.params).In g) (T : Top Mine.vw (looseW Mine.vw []) mean mg mb g) (N : News g L s.heap news) (hm : (src, o) ∈ news) (ho : SrcObj o)
    (U : ∀ o', Upd src o o' news (news' o')) (hd : dp + 4 < recursionLimit) (hu : un + 130 < cLine)
    (ret : ∀ r h' tk' o', Fr g L h' m → News g L h' (news' o') → SrcObj o' → Q (.ref r) { s with heap := h', toks := tk' }) :
    wpAny (model PySem.Challenge.pw_xm0585_01 w) (arnd dp un gd fr) (call (.ref 175) [.ref src]) Q E s := by
  refine operand_ok X T F.keep (N _ hm).2.2 ⟨o, (N _ hm).1, ho⟩ hd hu fun r h' tk' kb hs => ?_
  obtain ⟨o', e, ho'⟩ := hs
  obtain ⟨F', N'⟩ := back_src F N hm kb e (U o')
  exact ret r h' tk' o' F' N' ho'
end
abbrev sAssign : Str := Str.ofString "assign"
abbrev sRef : Str := Str.ofString "ref"
abbrev sDisc : Str := Str.ofString "discriminant"
abbrev sLive : Str := Str.ofString "live"
abbrev sDead : Str := Str.ofString "dead"
/-- a statement that was built, and what is due of it -/
inductive StmtAt (h : Heap) : Value → Value → Prop
  | ref {st du G rv P : Addr} {t t2 : Tok} {kv : Value} {n1 n2 n3 : Nat} (h1 : h.get? st = some (tupObj [.str sAssign t, .ref G, .ref rv] n1)) (h2 : h.get? rv = some (tupObj [.str sRef t2, .none, kv, .ref P] n2))
      (h3 : h.get? du = some (tupObj [.ref P, .ref G, .none, .none] n3)) : StmtAt h (.ref st) (.ref du)
  | disc {st du G rv P : Addr} {t t2 : Tok} {n1 n2 n3 : Nat} (h1 : h.get? st = some (tupObj [.str sAssign t, .ref G, .ref rv] n1)) (h2 : h.get? rv = some (tupObj [.str sDisc t2, .ref P] n2))
      (h3 : h.get? du = some (tupObj [.ref P, .ref G, .none, .none] n3)) : StmtAt h (.ref st) (.ref du)
  | use {st du G rv : Addr} {t t2 : Tok} {x : Str} {rest : List Value} {n1 n2 n3 : Nat} (h1 : h.get? st = some (tupObj [.str sAssign t, .ref G, .ref rv] n1)) (h2 : h.get? rv = some (tupObj (.str x t2 :: rest) n2))
      (x1 : x ≠ sRef) (x2 : x ≠ sDisc) (h3 : h.get? du = some (tupObj [.none, .ref G, .none, .none] n3)) : StmtAt h (.ref st) (.ref du)
  | other {st du : Addr} {t : Tok} {x : Str} {rest : List Value} {n1 n3 : Nat} (h1 : h.get? st = some (tupObj (.str x t :: rest) n1))
      (x1 : x ≠ sAssign) (x2 : x ≠ sLive) (x3 : x ≠ sDead) (h3 : h.get? du = some (tupObj [.none, .none, .none, .none] n3)) : StmtAt h (.ref st) (.ref du)
  | room {st du : Addr} {t t2 t3 : Tok} {x : Str} {k : Int} {n1 n3 : Nat} (h1 : h.get? st = some (tupObj [.str x t, .int k t2] n1))
      (x1 : x = sLive ∨ x = sDead) (h3 : h.get? du = some (tupObj [.none, .none, .none, .int k t3] n3)) : StmtAt h (.ref st) (.ref du)
theorem StmtAt.mono {h h' : Heap} (k : ∀ b o, h.get? b = some o → h'.get? b = some o) {a b : Value} (x : StmtAt h a b) : StmtAt h' a b := by
  cases x with
  | ref h1 h2 h3 => exact .ref (k _ _ h1) (k _ _ h2) (k _ _ h3)
  | disc h1 h2 h3 => exact .disc (k _ _ h1) (k _ _ h2) (k _ _ h3)
  | use h1 h2 x1 x2 h3 => exact .use (k _ _ h1) (k _ _ h2) x1 x2 (k _ _ h3)
  | other h1 x1 x2 x3 h3 => exact .other (k _ _ h1) x1 x2 x3 (k _ _ h3)
  | room h1 x1 h3 => exact .room (k _ _ h1) x1 (k _ _ h3)
def PairAt (h : Heap) (r : Addr) : Prop := ∃ sv dv n, h.get? r = some (tupObj [sv, dv] n) ∧ StmtAt h sv dv
set_option maxRecDepth 100000 in
set_option maxHeartbeats 8000000 in
theorem statement_ok {w : World} {mean : ExcName → Option Value} {mg mb : Str → Option Value} {h₀ : Heap} {s : Shared} {dp un : Nat} {gd : Option (List Code)} {fr : Option (List Env)} {src : Addr} {Q E : Value → Shared → Prop}
    (X : (Mine.hd.heap_1 w.params).In h₀) (T : Top Mine.vw (looseW Mine.vw []) mean mg mb h₀) (st : h₀.StaysIn s.heap) (hn : h₀.get? src = none) (hs : SrcOk s.heap src)
    (hd : dp + 5 < recursionLimit) (hu : un + 140 < cLine)
    (hQ : ∀ r h' tk', KeepBut [src] s.heap h' → SrcOk h' src → s.heap.get? r = none → PairAt h' r → Q (.ref r) { s with heap := h', toks := tk' }) :
    wpAny (model PySem.Challenge.pw_xm0585_01 w) (arnd dp un gd fr) (call (.ref 182) [.ref src]) Q E s := by
  obtain ⟨o, hs, hso⟩ := hs
  refine' enter (news := [(src, o)]) X T st ?N ?Nn ?ho ?hcd ?hroom ?hbind ?hloc ?_ ?c2 ?c3 ?c4 ?c5
  case N => intro p hp; rw [List.mem_singleton.mp hp]; exact hs
  case Nn => intro p hp; rw [List.mem_singleton.mp hp]; exact hn
  ((case ho => k_dflt k_is); (case hcd => k_dflt k_is); (case hroom => ktr_room); (case hbind => exact BindsTo.of_eq rfl); (case c2 => decide); (case c3 => exact rfl); (case c4 => exact rfl); (case c5 => exact rfl); (case hloc => exact locs rfl))
  intro g L' h₁ st1 st2 keep F' N' X' T' nL l1 d' u' fr' hd' hu'
  change Fr _ _ _ (fun y => List.lookup y [(_, _)]) at F'
  k_lt l1
  (try dsimp only)
  (repeat' (first | (k_unfold; (try dsimp only)) | (k_end; wrow_close) | ((first | ((with_reducible show wpAny _ _ (call (Value.ref 175) _) _ _ _); refine operand_use (by k_asm) (by k_asm) (by k_asm) (by k_asm) (by k_mem) (by assumption) (by intro ozz9; k_upd) (by ktr_room) (by ktr_room) ?_; k_whole; intro rzz9 hzz9 tkzz9 ozz9 Fzz9 Nzz9 hozz9; (try dsimp only at Nzz9); (try k_sweep)) | ((with_reducible show wpAny _ _ (call (Value.ref 168) _) _ _ _); refine place_use (by k_asm) (by k_asm) (by k_asm) (by k_asm) (by k_mem) (by assumption) (by intro ozz9; k_upd) (by ktr_room) (by ktr_room) ?_; k_whole; intro rzz9 kzz9 tzz9 svzz9 nzz9 hzz9 tkzz9 ozz9 hlzz9 Fzz9 Nzz9 hozz9; (try dsimp only at Nzz9); (try k_sweep)) | ((with_reducible show wpAny _ _ (call (Value.ref 161) _) _ _ _); refine one_use (by k_asm) (by k_asm) (by k_asm) (by k_asm) (by k_mem) (by assumption) (News.isList (by k_asm) (by k_mem)) (by k_ne) (by intro ozz9; k_upd) (by ktr_room) (by ktr_room) (by first | decide | ktr_units) (by first | decide | ktr_units) ?_; k_whole; (first | refine mem_two ?_ ?_ | (intro vzz9 hvzz9)) <;> (intro hzz9 tkzz9 ozz9 Fzz9 Nzz9 hozz9; (try dsimp only at Nzz9); (try k_sweep))) | ((with_reducible show wpAny _ _ (call (Value.ref 154) _) _ _ _); refine take_use (by k_asm) (by k_asm) (by k_asm) (by k_asm) (by k_mem) (by assumption) (by intro ozz9; k_upd) (by ktr_room) (by ktr_room) (by first | decide | ktr_units | assumption) (by first | decide | ktr_units | assumption) ?_; k_whole; intro rzz9 tzz9 hzz9 tkzz9 ozz9 hr0zz9 hr1zz9 Fzz9 Nzz9 hozz9; (try dsimp only at Nzz9); (try k_sweep)) | ((with_reducible show wpAny _ _ (spliced _) _ _ _); refine' args_plain ?qSS ?qFF ?qkk ?qPP ?_; (case qSS => rfl); (case qFF => k_asm); (case qkk => rfl); (case qPP => repeat' first | exact Plain.nil | (apply Plain.name; exact rfl; exact rfl; decide) | apply Plain.none | apply Plain.bool | apply Plain.int | apply Plain.str); k_whole; (try dsimp only [List.cons_append, List.nil_append])) | walk1) <;> first | (with_reducible show wpAny _ _ (subscriptTail _ (PySem.Expr.Slice _ _ _ _) _ _) _ _ _) | (try dsimp only)) | (dsimp only; walk1) | (leave1; try dsimp only) | fail "no step"))
  all_goals (try dsimp only)
  all_goals (rename Fr _ _ _ _ => F; rename News _ _ _ _ => N; rename SrcObj _ => O)
  all_goals refine hQ _ _ _ (keep_of keep F) ⟨_, N.get (by k_mem), O⟩ (fresh_of keep N (.head _) (by k_ne)) ⟨_, _, _, N.get (.head _), ?_⟩
  all_goals first
    | exact .ref (N.get (by k_mem)) (N.get (by k_mem)) (N.get (by k_mem))
    | exact .disc (N.get (by k_mem)) (N.get (by k_mem)) (N.get (by k_mem))
    | exact .use (N.get (by k_mem)) (N.get (by k_mem)) (by decide) (by decide) (N.get (by k_mem))
    | exact .other (N.get (by k_mem)) (by decide) (by decide) (by decide) (N.get (by k_mem))
    | ((rename _ ∈ [_, _, _, _] => hv); (simp only [List.mem_cons, List.not_mem_nil, or_false] at hv); rcases hv with rfl | rfl | rfl | rfl <;> exact .use (N.get (by k_mem)) (N.get (by k_mem)) (by decide) (by decide) (N.get (by k_mem)))
    | ((rename _ ∈ [_, _] => hv); (simp only [List.mem_cons, List.not_mem_nil, or_false] at hv); rcases hv with rfl | rfl <;> exact .room (N.get (by k_mem)) (by first | exact .inl rfl | exact .inr rfl) (N.get (by k_mem)))
/-- a terminator that was built, what is due of it, and the blocks it leads to -/
inductive TermAt (h : Heap) : Value → Value → List Int → Prop
  | goto {tm du : Addr} {t t2 : Tok} {g : Int} {n1 n2 : Nat} (h1 : h.get? tm = some (tupObj [.str (Str.ofString "goto") t, .int g t2] n1)) (h2 : h.get? du = some (tupObj [.none, .none, .none, .none] n2)) : TermAt h (.ref tm) (.ref du) [g]
  | switch2 {tm du rs r0 r1 : Addr} {t t2 t3 t4 t5 : Tok} {one : Value} {g0 g1 : Int} {n1 n2 n3 n4 n5 : Nat} (h1 : h.get? tm = some (tupObj [.str (Str.ofString "switch") t, one, .ref rs, .none] n1)) (h2 : h.get? du = some (tupObj [.none, .none, .none, .none] n2))
      (h3 : h.get? rs = some (tupObj [.ref r0, .ref r1] n3)) (h4 : h.get? r0 = some (tupObj [.int 0 t2, .int g0 t3] n4)) (h5 : h.get? r1 = some (tupObj [.int 1 t4, .int g1 t5] n5)) : TermAt h (.ref tm) (.ref du) [g0, g1]
  | switch3 {tm du rs r0 r1 : Addr} {t t2 t3 t4 t5 t6 : Tok} {one : Value} {g0 g1 g2 : Int} {n1 n2 n3 n4 n5 : Nat} (h1 : h.get? tm = some (tupObj [.str (Str.ofString "switch") t, one, .ref rs, .int g2 t6] n1)) (h2 : h.get? du = some (tupObj [.none, .none, .none, .none] n2))
      (h3 : h.get? rs = some (tupObj [.ref r0, .ref r1] n3)) (h4 : h.get? r0 = some (tupObj [.int 0 t2, .int g0 t3] n4)) (h5 : h.get? r1 = some (tupObj [.int 1 t4, .int g1 t5] n5)) : TermAt h (.ref tm) (.ref du) [g0, g1, g2]
  | call0 {tm du P : Addr} {t : Tok} {f a : Value} {n1 n2 : Nat} (h1 : h.get? tm = some (tupObj [.str (Str.ofString "call") t, f, a, .ref P, .none] n1)) (h2 : h.get? du = some (tupObj [.none, .ref P, .none, .none] n2)) : TermAt h (.ref tm) (.ref du) []
  | call1 {tm du P : Addr} {t t2 : Tok} {f a : Value} {g : Int} {n1 n2 : Nat} (h1 : h.get? tm = some (tupObj [.str (Str.ofString "call") t, f, a, .ref P, .int g t2] n1)) (h2 : h.get? du = some (tupObj [.none, .ref P, .none, .none] n2)) : TermAt h (.ref tm) (.ref du) [g]
  | drop {tm du P : Addr} {t t2 : Tok} {g : Int} {n1 n2 : Nat} (h1 : h.get? tm = some (tupObj [.str (Str.ofString "drop") t, .ref P, .int g t2] n1)) (h2 : h.get? du = some (tupObj [.none, .none, .ref P, .none] n2)) : TermAt h (.ref tm) (.ref du) [g]
  | assert {tm du : Addr} {t t2 : Tok} {a b c : Value} {g : Int} {n1 n2 : Nat} (h1 : h.get? tm = some (tupObj [.str (Str.ofString "assert") t, a, b, c, .int g t2] n1)) (h2 : h.get? du = some (tupObj [.none, .none, .none, .none] n2)) : TermAt h (.ref tm) (.ref du) [g]
  | other {tm du : Addr} {t : Tok} {x : Str} {rest : List Value} {n1 n2 : Nat} (h1 : h.get? tm = some (tupObj (.str x t :: rest) n1)) (x1 : x ≠ Str.ofString "goto") (x2 : x ≠ Str.ofString "switch") (x3 : x ≠ Str.ofString "call") (x4 : x ≠ Str.ofString "drop") (x5 : x ≠ Str.ofString "assert")
      (h2 : h.get? du = some (tupObj [.none, .none, .none, .none] n2)) : TermAt h (.ref tm) (.ref du) []
theorem TermAt.mono {h h' : Heap} (k : ∀ b o, h.get? b = some o → h'.get? b = some o) {a b : Value} {gs : List Int} (x : TermAt h a b gs) : TermAt h' a b gs := by
  cases x with
  | goto h1 h2 => exact .goto (k _ _ h1) (k _ _ h2)
  | switch2 h1 h2 h3 h4 h5 => exact .switch2 (k _ _ h1) (k _ _ h2) (k _ _ h3) (k _ _ h4) (k _ _ h5)
  | switch3 h1 h2 h3 h4 h5 => exact .switch3 (k _ _ h1) (k _ _ h2) (k _ _ h3) (k _ _ h4) (k _ _ h5)
  | call0 h1 h2 => exact .call0 (k _ _ h1) (k _ _ h2)
  | call1 h1 h2 => exact .call1 (k _ _ h1) (k _ _ h2)
  | drop h1 h2 => exact .drop (k _ _ h1) (k _ _ h2)
  | assert h1 h2 => exact .assert (k _ _ h1) (k _ _ h2)
  | other h1 x1 x2 x3 x4 x5 h2 => exact .other (k _ _ h1) x1 x2 x3 x4 x5 (k _ _ h2)
def EndAt (h₁ h : Heap) (many : Int) (r : Addr) : Prop := ∃ tv dv gl n gs vs n', h₁.get? gl = none ∧ h.get? r = some (tupObj [tv, dv, .ref gl] n) ∧ TermAt h tv dv gs ∧ h.get? gl = some (listOf (List.toArray vs) n') ∧ IntsAre vs gs ∧ ∀ g ∈ gs, 0 ≤ g ∧ g < many
theorem endAt_of {h₁ h : Heap} {many : Int} {r gl : Addr} {tv dv : Value} {n n' : Nat} {gs : List Int} {vs : List Value} (e1 : h.get? r = some (tupObj [tv, dv, .ref gl] n)) (e0 : h₁.get? gl = none) (e2 : h.get? gl = some (listOf (List.toArray vs) n')) (t : TermAt h tv dv gs)
    (i : IntsAre vs gs) (b : ∀ g ∈ gs, 0 ≤ g ∧ g < many) : EndAt h₁ h many r := ⟨tv, dv, gl, n, gs, vs, n', e0, e1, t, e2, i, b⟩
theorem other_of {g h : Heap} {L a1 a2 a3 du : Addr} {news : List (Addr × Obj)} {v : Value} {t1 t2 t3 t4 : Tok} {n1 n2 n3 n4 : Nat} (N : News g L h news) (hv : v ∈ [.ref a1, .ref a2, .ref a3])
    (m1 : (a1, tupObj [.str (Str.ofString "return") t1] n1) ∈ news) (m2 : (a2, tupObj [.str (Str.ofString "panic") t2, .str (Str.ofString "text") t3] n2) ∈ news) (m3 : (a3, tupObj [.str (Str.ofString "unreachable") t4] n3) ∈ news)
    (h2 : h.get? du = some (tupObj [.none, .none, .none, .none] n4)) : TermAt h v (.ref du) [] := by
  simp only [List.mem_cons, List.not_mem_nil, or_false] at hv
  rcases hv with rfl | rfl | rfl
  · exact .other (N.get m1) (by decide) (by decide) (by decide) (by decide) (by decide) h2
  · exact .other (N.get m2) (by decide) (by decide) (by decide) (by decide) (by decide) h2
  · exact .other (N.get m3) (by decide) (by decide) (by decide) (by decide) (by decide) h2
section
set_option maxRecDepth 100000 in
set_option maxHeartbeats 8000000 in
theorem end_ok {w : World} {mean : ExcName → Option Value} {mg mb : Str → Option Value} {h₀ : Heap} {s : Shared} {dp un : Nat} {gd : Option (List Code)} {fr : Option (List Env)} {src : Addr} {many : Int} {tm : Tok} {Q E : Value → Shared → Prop}
    (X : (Mine.hd.heap_1 w.params).In h₀) (T : Top Mine.vw (looseW Mine.vw []) mean mg mb h₀) (st : h₀.StaysIn s.heap) (hn : h₀.get? src = none) (hs : SrcOk s.heap src)
    (hd : dp + 5 < recursionLimit) (hu : un + 140 < cLine) (hm0 : 0 < many) (hm1 : many < 1000)
    (hQ : ∀ r h' tk', KeepBut [src] s.heap h' → SrcOk h' src → s.heap.get? r = none → EndAt s.heap h' many r → Q (.ref r) { s with heap := h', toks := tk' }) :
    wpAny (model PySem.Challenge.pw_xm0585_01 w) (arnd dp un gd fr) (call (.ref 187) [.ref src, .int many tm]) Q E s := by
  obtain ⟨o, hs, hso⟩ := hs
  refine' enterC (news := [(src, o)]) X T st ?N ?Nn ?ho ?hcd ?hroom ?hbind ?hkind ?hnd ?_ ?c3 ?c4 ?c5
  case N => intro p hp; rw [List.mem_singleton.mp hp]; exact hs
  case Nn => intro p hp; rw [List.mem_singleton.mp hp]; exact hn
  case ho => k_dflt k_is
  case hcd => k_dflt k_is
  case hroom => ktr_room
  case hbind => exact BindsTo.of_eq rfl
  case hkind => exact rfl
  case hnd => decide +kernel
  case c3 => exact rfl
  case c4 => exact rfl
  case c5 => exact rfl
  intro g L' h₁ tk cells st1 st2 keep F' N' Y' X' T' nL l1 d' u' fr' hd' hu'
  change Fr _ _ _ (bindL _ [(_, _), (_, _)] _) at F'
  k_lt l1
  k_cells Y'
  (try simp only [List.cons_append, List.nil_append] at N')
  (try dsimp only)
  (repeat' (first | (k_unfold; (try dsimp only)) | (k_end; wrow_close) | ((first | ((with_reducible show wpAny _ _ (call (Value.ref 175) _) _ _ _); refine operand_use (by k_asm) (by k_asm) (by k_asm) (by k_asm) (by k_mem) (by assumption) (by intro ozz9; k_upd) (by ktr_room) (by ktr_room) ?_; k_whole; intro rzz9 hzz9 tkzz9 ozz9 Fzz9 Nzz9 hozz9; (try dsimp only at Nzz9); (try k_sweep)) | ((with_reducible show wpAny _ _ (call (Value.ref 168) _) _ _ _); refine place_use (by k_asm) (by k_asm) (by k_asm) (by k_asm) (by k_mem) (by assumption) (by intro ozz9; k_upd) (by ktr_room) (by ktr_room) ?_; k_whole; intro rzz9 kzz9 tzz9 svzz9 nzz9 hzz9 tkzz9 ozz9 hlzz9 Fzz9 Nzz9 hozz9; (try dsimp only at Nzz9); (try k_sweep)) | ((with_reducible show wpAny _ _ (call (Value.ref 161) _) _ _ _); refine one_use (by k_asm) (by k_asm) (by k_asm) (by k_asm) (by k_mem) (by assumption) (News.isList (by k_asm) (by k_mem)) (by k_ne) (by intro ozz9; k_upd) (by ktr_room) (by ktr_room) (by first | decide | ktr_units) (by first | decide | ktr_units) ?_; k_whole; (first | refine mem_two ?_ ?_ | (intro vzz9 hvzz9)) <;> (intro hzz9 tkzz9 ozz9 Fzz9 Nzz9 hozz9; (try dsimp only at Nzz9); (try k_sweep))) | ((with_reducible show wpAny _ _ (call (Value.ref 154) _) _ _ _); refine take_use (by k_asm) (by k_asm) (by k_asm) (by k_asm) (by k_mem) (by assumption) (by intro ozz9; k_upd) (by ktr_room) (by ktr_room) (by first | decide | ktr_units | assumption) (by first | decide | ktr_units | assumption) ?_; k_whole; intro rzz9 tzz9 hzz9 tkzz9 ozz9 hr0zz9 hr1zz9 Fzz9 Nzz9 hozz9; (try dsimp only at Nzz9); (try k_sweep)) | ((with_reducible show wpAny _ _ (exec (PySem.Stmt.Assign _ (PySem.Expr.ListComp _ _ _ _) _) _) _ _ _); refine LCg.Assign_ListComp_U (F₀ := by k_asm) (by rfl) (by with_unfolding_all rfl) (by with_unfolding_all rfl) (by decide) (by rfl) (by decide) (by rfl) (by rfl) (by rfl) ?_) | ((fail_if_success (with_reducible show wpAny _ _ _ _ _ _)); (fail_if_success (with_reducible show ite _ _ _)); refine LCg.CompSrc.range (by rfl) (by k_asm) (by k_asm) (by assumption) (by first | decide | rfl) (by first | rfl | decide) (by first | size_fits | exact Nat.le_of_ble_eq_true rfl) ?_; intro gzz9; lcg_lit) | ((fail_if_success (with_reducible show wpAny _ _ _ _ _ _)); (fail_if_success (with_reducible show ite _ _ _)); (with_unfolding_all first | (refine LCg.CompRest.succ ?_; intro vzz9 Izz9 oIzz9 Czz9 oCzz9 Dzz9 mzz9 hzz9 tkzz9 Ezz9 hvzz9 hCzz9 hxzz9 Fzz9 Nzz9 offzz9 nezz9; (first | lcg_open hvzz9 | (obtain ⟨tzz9, hwzz9⟩ := hvzz9; subst hwzz9)); have aIzz9 := off3_I offzz9; have aCzz9 := off3_C offzz9; have aDzz9 := off3_D offzz9; clear offzz9; have nAzz9 := nezz9.1; have nBzz9 := nezz9.2.1; have nCzz9 := nezz9.2.2; clear nezz9) | refine LCg.CompRest.zero ?_)) | ((unfold LCg.FinA); intro Dzz9 hzz9 tkzz9 Fzz9 Nzz9 o1zz9; have aDzz9 := off1_ne o1zz9; clear o1zz9; (try simp only [List.nil_append, List.cons_append] at Nzz9); (try dsimp only)) | ((with_reducible show wpAny _ _ (spliced _) _ _ _); refine' args_plain ?qSS ?qFF ?qkk ?qPP ?_; (case qSS => rfl); (case qFF => k_asm); (case qkk => rfl); (case qPP => repeat' first | exact Plain.nil | (apply Plain.name; exact rfl; exact rfl; decide) | apply Plain.none | apply Plain.bool | apply Plain.int | apply Plain.str); k_whole; (try dsimp only [List.cons_append, List.nil_append])) | walk1) <;> first | (with_reducible show wpAny _ _ (subscriptTail _ (PySem.Expr.Slice _ _ _ _) _ _) _ _ _) | (try dsimp only)) | (dsimp only; walk1) | (leave1; try dsimp only) | fail "no step"))
  all_goals (try dsimp only)
  all_goals (rename Fr _ _ _ _ => F; rename News _ _ _ _ => N; rename SrcObj _ => O)
  all_goals (refine' hQ _ _ _ (keep_of keep F) ⟨_, N.get (by k_mem), O⟩ (fresh_of keep N (.head _) (by k_ne)) (endAt_of (N.get (.head _)) (fresh_of keep N (by k_mem) (by k_ne)) (N.get (by k_mem)) ?_ ?_ ?_); rotate_left)
  all_goals first
    | exact .goto (N.get (by k_mem)) (N.get (by k_mem))
    | exact .switch2 (N.get (by k_mem)) (N.get (by k_mem)) (N.get (by k_mem)) (N.get (by k_mem)) (N.get (by k_mem))
    | exact .switch3 (N.get (by k_mem)) (N.get (by k_mem)) (N.get (by k_mem)) (N.get (by k_mem)) (N.get (by k_mem))
    | exact .call0 (N.get (by k_mem)) (N.get (by k_mem))
    | exact .call1 (N.get (by k_mem)) (N.get (by k_mem))
    | exact .drop (N.get (by k_mem)) (N.get (by k_mem))
    | exact .assert (N.get (by k_mem)) (N.get (by k_mem))
    | exact other_of N (by assumption) (by k_mem) (by k_mem) (by k_mem) (N.get (by k_mem))
    | ((with_reducible show IntsAre _ _); first | exact .nil | exact .cons _ _ .nil | exact .cons _ _ (.cons _ _ .nil) | exact .cons _ _ (.cons _ _ (.cons _ _ .nil)))
    | (repeat' (first | exact List.forall_mem_nil _ | (refine List.forall_mem_cons.mpr ⟨⟨by assumption, by assumption⟩, ?_⟩)))
end
section
variable {prog : Program} {w : World} {A : Around} {E : Value → Shared → Prop} {s : Shared} {g h : Heap} {L : Addr} {m : Str → Option Value}
theorem inst_base {x C dx : Addr} {sl : Array (Option Value)} {od : Obj} (F : Fr g L h m) (h1 : g.get? x = some ⟨.ref C, some dx, .plain, sl⟩) (h2 : g.get? dx = some od) : InstAt h x ⟨.ref C, some dx, .plain, sl⟩ C (some od) :=
  ⟨F.keep _ _ h1, rfl, rfl, F.keep _ _ h2⟩
theorem itemL_at {value slice : Expr} {a : Addr} {l : List Value} {k : Int} {u : Tok} {x : Value} {Q : Value → Shared → Prop} (F : Fr g L s.heap m) (hl : g.IsList a l.toArray)
    (hx : l[k.toNat]? = some x) (h0 : 0 ≤ k) (h1 : k < 2 ^ 62) (h : Q x s)
    (hs : subscripted slice false (.ref a) (.int k u) = operate [.ref a, .int k u] (getItem (.ref a) (.int k u)) := by with_unfolding_all rfl) :
    wpAny (model prog w) A (subscriptTail value slice (.ref a) (.int k u)) Q E s :=
  tail_any (F.lst hl).typeIs slot_list_getitem.lookup (wpAny_getItem_list (F.lst hl) h0 (by omega) (x := x) (by simpa using hx) h) hs
theorem itemT_head {value slice : Expr} {a : Addr} {l : List Value} {u : Tok} {x : Value} {Q : Value → Shared → Prop} (F : Fr g L s.heap m) (hl : IsTup g a (x :: l).toArray) (h : Q x s)
    (hs : subscripted slice false (.ref a) (.int 0 u) = operate [.ref a, .int 0 u] (getItem (.ref a) (.int 0 u)) := by with_unfolding_all rfl) :
    wpAny (model prog w) A (subscriptTail value slice (.ref a) (.int 0 u)) Q E s :=
  item_tupleT (F.tup hl) (by decide) (by decide) (j := 0) (by simp [seqIndex?]) rfl h hs
theorem eq_str_no {x y : Str} {t u : Tok} {Q : Value → Shared → Prop} (hn : x ≠ y) (h : Q (.bool false) s) : wpAny (model prog w) A (compareOp .Eq (.str x t) (.str y u)) Q E s :=
  PyProof.Rows.eq_str (by rw [beq_false_of_ne hn]; exact h)
theorem in_two_no {x y1 y2 : Str} {t u1 u2 : Tok} {a : Addr} {Q : Value → Shared → Prop} (ht : IsTup s.heap a [.str y1 u1, .str y2 u2].toArray) (h1 : x ≠ y1) (h2 : x ≠ y2) (h : Q (.bool false) s) : wpAny (model prog w) A (compareOp .In (.str x t) (.ref a)) Q E s :=
  in_tuple_strs ht (.cons _ _ (.cons _ _ .nil)) (by show Q (.bool (y1 == x || (y2 == x || false))) s; rw [beq_false_of_ne (Ne.symm h1), beq_false_of_ne (Ne.symm h2)]; exact h)
end
abbrev bodyEs (k1 k2 k3 k4 k5 : Int) (t1 t2 t3 t4 t5 : Tok) (v1 v2 v3 v4 v5 : Value) : List DictEntry :=
  [⟨k1, .str (Str.ofString "name") t1, v1⟩, ⟨k2, .str (Str.ofString "arg_count") t2, v2⟩, ⟨k3, .str (Str.ofString "locals") t3, v3⟩, ⟨k4, .str (Str.ofString "blocks") t4, v4⟩, ⟨k5, .str (Str.ofString "spots") t5, v5⟩]
def BodyAt (h : Heap) (body bl : Addr) : Prop := ∃ dx k1 k2 k3 k4 k5 t1 t2 t3 t4 t5 v1 v2 v3 v5 n, h.get? body = some (instObj 82 dx) ∧ h.get? dx = some (dictOf (bodyEs k1 k2 k3 k4 k5 t1 t2 t3 t4 t5 v1 v2 v3 (.ref bl) v5) n)
local macro_rules | `(tactic| k_inst) => `(tactic| (refine' inst_base ?F ?h1 ?h2; (case F => k_asm); (case h1 => assumption); (case h2 => assumption)))
local macro_rules | `(tactic| kun_lst) => `(tactic| (refine' Fr.lst ?F ?l; (case F => k_asm); (case l => assumption)))
local macro_rules | `(tactic| kun_tup) => `(tactic| (refine' Fr.tup ?F ?l; (case F => k_asm); (case l => assumption)))
set_option maxRecDepth 100000 in
set_option maxHeartbeats 8000000 in
theorem looked_a {w : World} {mean : ExcName → Option Value} {mg mb : Str → Option Value} {h₀ : Heap} {s : Shared} {dp un : Nat} {gd : Option (List Code)} {fr : Option (List Env)} {body bl pt bk sl : Addr} {tv : Value} {bvs svs : List Value} {b i : Int} {tb ti : Tok} {Q E : Value → Shared → Prop} {st G rv P : Addr} {kv : Value} {t t2 : Tok}
    (X : (Mine.hd.heap_1 w.params).In h₀) (T : Top Mine.vw (looseW Mine.vw []) mean mg mb h₀) (st0 : h₀.StaysIn s.heap)
    (hd : dp + 1 < recursionLimit) (hu : un + 100 < cLine)
    (hB : BodyAt s.heap body bl) (hbl : s.heap.IsList bl bvs.toArray) (hbk : bvs[b.toNat]? = some (.ref bk)) (hbk2 : s.heap.IsList bk [.ref sl, tv].toArray) (hsl : s.heap.IsList sl svs.toArray) (hp : IsTup s.heap pt [.int b tb, .int i ti].toArray)
    (b0 : 0 ≤ b) (b1 : b < 1000) (i0 : 0 ≤ i) (i1 : i < 1000) (z2 : svs.length < 1000) (hi : i < svs.length) (hs : svs[i.toNat]? = some (.ref st)) (h1 : IsTup s.heap st [.str sAssign t, .ref G, .ref rv].toArray) (h2 : IsTup s.heap rv [.str sRef t2, .none, kv, .ref P].toArray)
    (hQ : ∀ h' tk', s.heap.StaysIn h' → Q (.ref P) { s with heap := h', toks := tk' }) :
    wpAny (model PySem.Challenge.pw_xm0585_01 w) (arnd dp un gd fr) (call (.ref 119) [.ref body, .ref pt]) Q E s := by
  refine' enter (news := []) X T st0 (fun _ h => nomatch h) (fun _ h => nomatch h) ?ho ?hcd ?hroom ?hbind ?hloc ?_ ?c2 ?c3 ?c4 ?c5
  ((case ho => k_dflt k_is); (case hcd => k_dflt k_is); (case hroom => ktr_room); (case hbind => exact BindsTo.of_eq rfl); (case c2 => decide); (case c3 => exact rfl); (case c4 => exact rfl); (case c5 => exact rfl); (case hloc => exact locs rfl))
  intro g L' h₁' st1 st2 keep F' N' X' T' nL l1 d' u' fr' hd' hu'
  change Fr _ _ _ (fun y => List.lookup y [(_, _), (_, _)]) at F'
  refine hide (fun P9 toP9 => ?_)
  have k : ∀ b o, s.heap.get? b = some o → g.get? b = some o := fun b o e => keep b o e (fun h => nomatch h)
  obtain ⟨dx, k1, k2, k3, k4, k5, t1', t2', t3', t4', t5', v1, v2, v3, v5, n, hB1, hB2⟩ := hB
  replace hB1 := k _ _ hB1; replace hB2 := k _ _ hB2
  replace hbl := hbl.at (k bl); replace hbk2 := hbk2.at (k bk); replace hsl := hsl.at (k sl); replace hp := hp.keeps k
  have hz : svs.toArray.size = svs.length := List.size_toArray
  replace h1 := h1.keeps k; replace h2 := h2.keeps k
  (refine toP9 ?_; clear toP9 P9)
  (try dsimp only)
  (repeat' (first | (k_unfold; (try dsimp only)) | (k_end; wrow_close) | ((first | ((with_reducible show wpAny _ _ (compareOp CmpOp.In (Value.str _ _) (Value.ref _)) _ _ _); refine in_two_no (News.isTup (by k_asm) (by k_mem)) (by assumption) (by assumption) ?_; k_whole) | ((with_reducible show wpAny _ _ (compareOp CmpOp.Eq (Value.str _ _) (Value.str _ _)) _ _ _); refine eq_str_no (by assumption) ?_) | ((with_reducible show wpAny _ _ (subscriptTail _ _ (Value.ref _) (Value.int _ _)) _ _ _); first | (refine item_tupleT (Fr.tup (by k_asm) (by assumption)) (by decide) (by decide) (by rfl) (by rfl) ?_; k_whole) | ((with_reducible show wpAny _ _ (subscriptTail _ _ (Value.ref _) (Value.int 0 _)) _ _ _); refine itemT_head (by k_asm) (by assumption) ?_; k_whole) | (refine itemL_at (by k_asm) (by assumption) (by first | assumption | rfl) (by ktr_units) (by ktr_units) ?_; k_whole)) | ((with_reducible show wpAny _ _ (call (Value.builtin "len") [Value.ref _]) _ _ _); refine PyProof.Rows.len_list (Fr.lst (by k_asm) (by assumption)) (by ktr_units) ?_; k_whole) | ((with_reducible show wpAny _ _ (spliced _) _ _ _); refine' args_plain ?qSS ?qFF ?qkk ?qPP ?_; (case qSS => rfl); (case qFF => k_asm); (case qkk => rfl); (case qPP => repeat' first | exact Plain.nil | (apply Plain.name; exact rfl; exact rfl; decide) | apply Plain.none | apply Plain.bool | apply Plain.int | apply Plain.str); k_whole; (try dsimp only [List.cons_append, List.nil_append])) | walk1) <;> first | (with_reducible show wpAny _ _ (subscriptTail _ (PySem.Expr.Slice _ _ _ _) _ _) _ _ _) | (try dsimp only)) | (dsimp only; walk1) | (leave1; try dsimp only) | fail "no step"))
  all_goals (try dsimp only)
  all_goals (rename Fr _ _ _ _ => F)
  all_goals first | exact hQ _ _ (fun b o e => F.keep b o (k b o e)) | contradiction | (exfalso; omega)
set_option maxRecDepth 100000 in
set_option maxHeartbeats 8000000 in
theorem looked_b {w : World} {mean : ExcName → Option Value} {mg mb : Str → Option Value} {h₀ : Heap} {s : Shared} {dp un : Nat} {gd : Option (List Code)} {fr : Option (List Env)} {body bl pt bk sl : Addr} {tv : Value} {bvs svs : List Value} {b i : Int} {tb ti : Tok} {Q E : Value → Shared → Prop} {st G rv P : Addr} {t t2 : Tok}
    (X : (Mine.hd.heap_1 w.params).In h₀) (T : Top Mine.vw (looseW Mine.vw []) mean mg mb h₀) (st0 : h₀.StaysIn s.heap)
    (hd : dp + 1 < recursionLimit) (hu : un + 100 < cLine)
    (hB : BodyAt s.heap body bl) (hbl : s.heap.IsList bl bvs.toArray) (hbk : bvs[b.toNat]? = some (.ref bk)) (hbk2 : s.heap.IsList bk [.ref sl, tv].toArray) (hsl : s.heap.IsList sl svs.toArray) (hp : IsTup s.heap pt [.int b tb, .int i ti].toArray)
    (b0 : 0 ≤ b) (b1 : b < 1000) (i0 : 0 ≤ i) (i1 : i < 1000) (z2 : svs.length < 1000) (hi : i < svs.length) (hs : svs[i.toNat]? = some (.ref st)) (h1 : IsTup s.heap st [.str sAssign t, .ref G, .ref rv].toArray) (h2 : IsTup s.heap rv [.str sDisc t2, .ref P].toArray)
    (hQ : ∀ h' tk', s.heap.StaysIn h' → Q (.ref P) { s with heap := h', toks := tk' }) :
    wpAny (model PySem.Challenge.pw_xm0585_01 w) (arnd dp un gd fr) (call (.ref 119) [.ref body, .ref pt]) Q E s := by
  refine' enter (news := []) X T st0 (fun _ h => nomatch h) (fun _ h => nomatch h) ?ho ?hcd ?hroom ?hbind ?hloc ?_ ?c2 ?c3 ?c4 ?c5
  ((case ho => k_dflt k_is); (case hcd => k_dflt k_is); (case hroom => ktr_room); (case hbind => exact BindsTo.of_eq rfl); (case c2 => decide); (case c3 => exact rfl); (case c4 => exact rfl); (case c5 => exact rfl); (case hloc => exact locs rfl))
  intro g L' h₁' st1 st2 keep F' N' X' T' nL l1 d' u' fr' hd' hu'
  change Fr _ _ _ (fun y => List.lookup y [(_, _), (_, _)]) at F'
  refine hide (fun P9 toP9 => ?_)
  have k : ∀ b o, s.heap.get? b = some o → g.get? b = some o := fun b o e => keep b o e (fun h => nomatch h)
  obtain ⟨dx, k1, k2, k3, k4, k5, t1', t2', t3', t4', t5', v1, v2, v3, v5, n, hB1, hB2⟩ := hB
  replace hB1 := k _ _ hB1; replace hB2 := k _ _ hB2
  replace hbl := hbl.at (k bl); replace hbk2 := hbk2.at (k bk); replace hsl := hsl.at (k sl); replace hp := hp.keeps k
  have hz : svs.toArray.size = svs.length := List.size_toArray
  replace h1 := h1.keeps k; replace h2 := h2.keeps k
  (refine toP9 ?_; clear toP9 P9)
  (try dsimp only)
  (repeat' (first | (k_unfold; (try dsimp only)) | (k_end; wrow_close) | ((first | ((with_reducible show wpAny _ _ (compareOp CmpOp.In (Value.str _ _) (Value.ref _)) _ _ _); refine in_two_no (News.isTup (by k_asm) (by k_mem)) (by assumption) (by assumption) ?_; k_whole) | ((with_reducible show wpAny _ _ (compareOp CmpOp.Eq (Value.str _ _) (Value.str _ _)) _ _ _); refine eq_str_no (by assumption) ?_) | ((with_reducible show wpAny _ _ (subscriptTail _ _ (Value.ref _) (Value.int _ _)) _ _ _); first | (refine item_tupleT (Fr.tup (by k_asm) (by assumption)) (by decide) (by decide) (by rfl) (by rfl) ?_; k_whole) | ((with_reducible show wpAny _ _ (subscriptTail _ _ (Value.ref _) (Value.int 0 _)) _ _ _); refine itemT_head (by k_asm) (by assumption) ?_; k_whole) | (refine itemL_at (by k_asm) (by assumption) (by first | assumption | rfl) (by ktr_units) (by ktr_units) ?_; k_whole)) | ((with_reducible show wpAny _ _ (call (Value.builtin "len") [Value.ref _]) _ _ _); refine PyProof.Rows.len_list (Fr.lst (by k_asm) (by assumption)) (by ktr_units) ?_; k_whole) | ((with_reducible show wpAny _ _ (spliced _) _ _ _); refine' args_plain ?qSS ?qFF ?qkk ?qPP ?_; (case qSS => rfl); (case qFF => k_asm); (case qkk => rfl); (case qPP => repeat' first | exact Plain.nil | (apply Plain.name; exact rfl; exact rfl; decide) | apply Plain.none | apply Plain.bool | apply Plain.int | apply Plain.str); k_whole; (try dsimp only [List.cons_append, List.nil_append])) | walk1) <;> first | (with_reducible show wpAny _ _ (subscriptTail _ (PySem.Expr.Slice _ _ _ _) _ _) _ _ _) | (try dsimp only)) | (dsimp only; walk1) | (leave1; try dsimp only) | fail "no step"))
  all_goals (try dsimp only)
  all_goals (rename Fr _ _ _ _ => F)
  all_goals first | exact hQ _ _ (fun b o e => F.keep b o (k b o e)) | contradiction | (exfalso; omega)
set_option maxRecDepth 100000 in
set_option maxHeartbeats 8000000 in
theorem looked_c {w : World} {mean : ExcName → Option Value} {mg mb : Str → Option Value} {h₀ : Heap} {s : Shared} {dp un : Nat} {gd : Option (List Code)} {fr : Option (List Env)} {body bl pt bk sl : Addr} {tv : Value} {bvs svs : List Value} {b i : Int} {tb ti : Tok} {Q E : Value → Shared → Prop} {st G rv : Addr} {t t2 : Tok} {x : Str} {rest : List Value}
    (X : (Mine.hd.heap_1 w.params).In h₀) (T : Top Mine.vw (looseW Mine.vw []) mean mg mb h₀) (st0 : h₀.StaysIn s.heap)
    (hd : dp + 1 < recursionLimit) (hu : un + 100 < cLine)
    (hB : BodyAt s.heap body bl) (hbl : s.heap.IsList bl bvs.toArray) (hbk : bvs[b.toNat]? = some (.ref bk)) (hbk2 : s.heap.IsList bk [.ref sl, tv].toArray) (hsl : s.heap.IsList sl svs.toArray) (hp : IsTup s.heap pt [.int b tb, .int i ti].toArray)
    (b0 : 0 ≤ b) (b1 : b < 1000) (i0 : 0 ≤ i) (i1 : i < 1000) (z2 : svs.length < 1000) (hi : i < svs.length) (hs : svs[i.toNat]? = some (.ref st)) (h1 : IsTup s.heap st [.str sAssign t, .ref G, .ref rv].toArray) (h2 : IsTup s.heap rv (.str x t2 :: rest).toArray) (x1 : x ≠ sRef) (x2 : x ≠ sDisc)
    (hQ : ∀ h' tk', s.heap.StaysIn h' → Q (.none) { s with heap := h', toks := tk' }) :
    wpAny (model PySem.Challenge.pw_xm0585_01 w) (arnd dp un gd fr) (call (.ref 119) [.ref body, .ref pt]) Q E s := by
  refine' enter (news := []) X T st0 (fun _ h => nomatch h) (fun _ h => nomatch h) ?ho ?hcd ?hroom ?hbind ?hloc ?_ ?c2 ?c3 ?c4 ?c5
  ((case ho => k_dflt k_is); (case hcd => k_dflt k_is); (case hroom => ktr_room); (case hbind => exact BindsTo.of_eq rfl); (case c2 => decide); (case c3 => exact rfl); (case c4 => exact rfl); (case c5 => exact rfl); (case hloc => exact locs rfl))
  intro g L' h₁' st1 st2 keep F' N' X' T' nL l1 d' u' fr' hd' hu'
  change Fr _ _ _ (fun y => List.lookup y [(_, _), (_, _)]) at F'
  refine hide (fun P9 toP9 => ?_)
  have k : ∀ b o, s.heap.get? b = some o → g.get? b = some o := fun b o e => keep b o e (fun h => nomatch h)
  obtain ⟨dx, k1, k2, k3, k4, k5, t1', t2', t3', t4', t5', v1, v2, v3, v5, n, hB1, hB2⟩ := hB
  replace hB1 := k _ _ hB1; replace hB2 := k _ _ hB2
  replace hbl := hbl.at (k bl); replace hbk2 := hbk2.at (k bk); replace hsl := hsl.at (k sl); replace hp := hp.keeps k
  have hz : svs.toArray.size = svs.length := List.size_toArray
  replace h1 := h1.keeps k; replace h2 := h2.keeps k
  (refine toP9 ?_; clear toP9 P9)
  (try dsimp only)
  (repeat' (first | (k_unfold; (try dsimp only)) | (k_end; wrow_close) | ((first | ((with_reducible show wpAny _ _ (compareOp CmpOp.In (Value.str _ _) (Value.ref _)) _ _ _); refine in_two_no (News.isTup (by k_asm) (by k_mem)) (by assumption) (by assumption) ?_; k_whole) | ((with_reducible show wpAny _ _ (compareOp CmpOp.Eq (Value.str _ _) (Value.str _ _)) _ _ _); refine eq_str_no (by assumption) ?_) | ((with_reducible show wpAny _ _ (subscriptTail _ _ (Value.ref _) (Value.int _ _)) _ _ _); first | (refine item_tupleT (Fr.tup (by k_asm) (by assumption)) (by decide) (by decide) (by rfl) (by rfl) ?_; k_whole) | ((with_reducible show wpAny _ _ (subscriptTail _ _ (Value.ref _) (Value.int 0 _)) _ _ _); refine itemT_head (by k_asm) (by assumption) ?_; k_whole) | (refine itemL_at (by k_asm) (by assumption) (by first | assumption | rfl) (by ktr_units) (by ktr_units) ?_; k_whole)) | ((with_reducible show wpAny _ _ (call (Value.builtin "len") [Value.ref _]) _ _ _); refine PyProof.Rows.len_list (Fr.lst (by k_asm) (by assumption)) (by ktr_units) ?_; k_whole) | ((with_reducible show wpAny _ _ (spliced _) _ _ _); refine' args_plain ?qSS ?qFF ?qkk ?qPP ?_; (case qSS => rfl); (case qFF => k_asm); (case qkk => rfl); (case qPP => repeat' first | exact Plain.nil | (apply Plain.name; exact rfl; exact rfl; decide) | apply Plain.none | apply Plain.bool | apply Plain.int | apply Plain.str); k_whole; (try dsimp only [List.cons_append, List.nil_append])) | walk1) <;> first | (with_reducible show wpAny _ _ (subscriptTail _ (PySem.Expr.Slice _ _ _ _) _ _) _ _ _) | (try dsimp only)) | (dsimp only; walk1) | (leave1; try dsimp only) | fail "no step"))
  all_goals (try dsimp only)
  all_goals (rename Fr _ _ _ _ => F)
  all_goals first | exact hQ _ _ (fun b o e => F.keep b o (k b o e)) | contradiction | (exfalso; omega)
set_option maxRecDepth 100000 in
set_option maxHeartbeats 8000000 in
theorem looked_d {w : World} {mean : ExcName → Option Value} {mg mb : Str → Option Value} {h₀ : Heap} {s : Shared} {dp un : Nat} {gd : Option (List Code)} {fr : Option (List Env)} {body bl pt bk sl : Addr} {tv : Value} {bvs svs : List Value} {b i : Int} {tb ti : Tok} {Q E : Value → Shared → Prop} {st : Addr} {t : Tok} {x : Str} {rest : List Value}
    (X : (Mine.hd.heap_1 w.params).In h₀) (T : Top Mine.vw (looseW Mine.vw []) mean mg mb h₀) (st0 : h₀.StaysIn s.heap)
    (hd : dp + 1 < recursionLimit) (hu : un + 100 < cLine)
    (hB : BodyAt s.heap body bl) (hbl : s.heap.IsList bl bvs.toArray) (hbk : bvs[b.toNat]? = some (.ref bk)) (hbk2 : s.heap.IsList bk [.ref sl, tv].toArray) (hsl : s.heap.IsList sl svs.toArray) (hp : IsTup s.heap pt [.int b tb, .int i ti].toArray)
    (b0 : 0 ≤ b) (b1 : b < 1000) (i0 : 0 ≤ i) (i1 : i < 1000) (z2 : svs.length < 1000) (hi : i < svs.length) (hs : svs[i.toNat]? = some (.ref st)) (h1 : IsTup s.heap st (.str x t :: rest).toArray) (x1 : x ≠ sAssign)
    (hQ : ∀ h' tk', s.heap.StaysIn h' → Q (.none) { s with heap := h', toks := tk' }) :
    wpAny (model PySem.Challenge.pw_xm0585_01 w) (arnd dp un gd fr) (call (.ref 119) [.ref body, .ref pt]) Q E s := by
  refine' enter (news := []) X T st0 (fun _ h => nomatch h) (fun _ h => nomatch h) ?ho ?hcd ?hroom ?hbind ?hloc ?_ ?c2 ?c3 ?c4 ?c5
  ((case ho => k_dflt k_is); (case hcd => k_dflt k_is); (case hroom => ktr_room); (case hbind => exact BindsTo.of_eq rfl); (case c2 => decide); (case c3 => exact rfl); (case c4 => exact rfl); (case c5 => exact rfl); (case hloc => exact locs rfl))
  intro g L' h₁' st1 st2 keep F' N' X' T' nL l1 d' u' fr' hd' hu'
  change Fr _ _ _ (fun y => List.lookup y [(_, _), (_, _)]) at F'
  refine hide (fun P9 toP9 => ?_)
  have k : ∀ b o, s.heap.get? b = some o → g.get? b = some o := fun b o e => keep b o e (fun h => nomatch h)
  obtain ⟨dx, k1, k2, k3, k4, k5, t1', t2', t3', t4', t5', v1, v2, v3, v5, n, hB1, hB2⟩ := hB
  replace hB1 := k _ _ hB1; replace hB2 := k _ _ hB2
  replace hbl := hbl.at (k bl); replace hbk2 := hbk2.at (k bk); replace hsl := hsl.at (k sl); replace hp := hp.keeps k
  have hz : svs.toArray.size = svs.length := List.size_toArray
  replace h1 := h1.keeps k
  (refine toP9 ?_; clear toP9 P9)
  (try dsimp only)
  (repeat' (first | (k_unfold; (try dsimp only)) | (k_end; wrow_close) | ((first | ((with_reducible show wpAny _ _ (compareOp CmpOp.In (Value.str _ _) (Value.ref _)) _ _ _); refine in_two_no (News.isTup (by k_asm) (by k_mem)) (by assumption) (by assumption) ?_; k_whole) | ((with_reducible show wpAny _ _ (compareOp CmpOp.Eq (Value.str _ _) (Value.str _ _)) _ _ _); refine eq_str_no (by assumption) ?_) | ((with_reducible show wpAny _ _ (subscriptTail _ _ (Value.ref _) (Value.int _ _)) _ _ _); first | (refine item_tupleT (Fr.tup (by k_asm) (by assumption)) (by decide) (by decide) (by rfl) (by rfl) ?_; k_whole) | ((with_reducible show wpAny _ _ (subscriptTail _ _ (Value.ref _) (Value.int 0 _)) _ _ _); refine itemT_head (by k_asm) (by assumption) ?_; k_whole) | (refine itemL_at (by k_asm) (by assumption) (by first | assumption | rfl) (by ktr_units) (by ktr_units) ?_; k_whole)) | ((with_reducible show wpAny _ _ (call (Value.builtin "len") [Value.ref _]) _ _ _); refine PyProof.Rows.len_list (Fr.lst (by k_asm) (by assumption)) (by ktr_units) ?_; k_whole) | ((with_reducible show wpAny _ _ (spliced _) _ _ _); refine' args_plain ?qSS ?qFF ?qkk ?qPP ?_; (case qSS => rfl); (case qFF => k_asm); (case qkk => rfl); (case qPP => repeat' first | exact Plain.nil | (apply Plain.name; exact rfl; exact rfl; decide) | apply Plain.none | apply Plain.bool | apply Plain.int | apply Plain.str); k_whole; (try dsimp only [List.cons_append, List.nil_append])) | walk1) <;> first | (with_reducible show wpAny _ _ (subscriptTail _ (PySem.Expr.Slice _ _ _ _) _ _) _ _ _) | (try dsimp only)) | (dsimp only; walk1) | (leave1; try dsimp only) | fail "no step"))
  all_goals (try dsimp only)
  all_goals (rename Fr _ _ _ _ => F)
  all_goals first | exact hQ _ _ (fun b o e => F.keep b o (k b o e)) | contradiction | (exfalso; omega)
set_option maxRecDepth 100000 in
set_option maxHeartbeats 8000000 in
theorem looked_e {w : World} {mean : ExcName → Option Value} {mg mb : Str → Option Value} {h₀ : Heap} {s : Shared} {dp un : Nat} {gd : Option (List Code)} {fr : Option (List Env)} {body bl pt bk sl : Addr} {tv : Value} {bvs svs : List Value} {b i : Int} {tb ti : Tok} {Q E : Value → Shared → Prop} 
    (X : (Mine.hd.heap_1 w.params).In h₀) (T : Top Mine.vw (looseW Mine.vw []) mean mg mb h₀) (st0 : h₀.StaysIn s.heap)
    (hd : dp + 1 < recursionLimit) (hu : un + 100 < cLine)
    (hB : BodyAt s.heap body bl) (hbl : s.heap.IsList bl bvs.toArray) (hbk : bvs[b.toNat]? = some (.ref bk)) (hbk2 : s.heap.IsList bk [.ref sl, tv].toArray) (hsl : s.heap.IsList sl svs.toArray) (hp : IsTup s.heap pt [.int b tb, .int i ti].toArray)
    (b0 : 0 ≤ b) (b1 : b < 1000) (i0 : 0 ≤ i) (i1 : i < 1000) (z2 : svs.length < 1000) (hi : i = svs.length)
    (hQ : ∀ h' tk', s.heap.StaysIn h' → Q (.none) { s with heap := h', toks := tk' }) :
    wpAny (model PySem.Challenge.pw_xm0585_01 w) (arnd dp un gd fr) (call (.ref 119) [.ref body, .ref pt]) Q E s := by
  refine' enter (news := []) X T st0 (fun _ h => nomatch h) (fun _ h => nomatch h) ?ho ?hcd ?hroom ?hbind ?hloc ?_ ?c2 ?c3 ?c4 ?c5
  ((case ho => k_dflt k_is); (case hcd => k_dflt k_is); (case hroom => ktr_room); (case hbind => exact BindsTo.of_eq rfl); (case c2 => decide); (case c3 => exact rfl); (case c4 => exact rfl); (case c5 => exact rfl); (case hloc => exact locs rfl))
  intro g L' h₁' st1 st2 keep F' N' X' T' nL l1 d' u' fr' hd' hu'
  change Fr _ _ _ (fun y => List.lookup y [(_, _), (_, _)]) at F'
  refine hide (fun P9 toP9 => ?_)
  have k : ∀ b o, s.heap.get? b = some o → g.get? b = some o := fun b o e => keep b o e (fun h => nomatch h)
  obtain ⟨dx, k1, k2, k3, k4, k5, t1', t2', t3', t4', t5', v1, v2, v3, v5, n, hB1, hB2⟩ := hB
  replace hB1 := k _ _ hB1; replace hB2 := k _ _ hB2
  replace hbl := hbl.at (k bl); replace hbk2 := hbk2.at (k bk); replace hsl := hsl.at (k sl); replace hp := hp.keeps k
  have hz : svs.toArray.size = svs.length := List.size_toArray
  skip
  (refine toP9 ?_; clear toP9 P9)
  (try dsimp only)
  (repeat' (first | (k_unfold; (try dsimp only)) | (k_end; wrow_close) | ((first | ((with_reducible show wpAny _ _ (compareOp CmpOp.In (Value.str _ _) (Value.ref _)) _ _ _); refine in_two_no (News.isTup (by k_asm) (by k_mem)) (by assumption) (by assumption) ?_; k_whole) | ((with_reducible show wpAny _ _ (compareOp CmpOp.Eq (Value.str _ _) (Value.str _ _)) _ _ _); refine eq_str_no (by assumption) ?_) | ((with_reducible show wpAny _ _ (subscriptTail _ _ (Value.ref _) (Value.int _ _)) _ _ _); first | (refine item_tupleT (Fr.tup (by k_asm) (by assumption)) (by decide) (by decide) (by rfl) (by rfl) ?_; k_whole) | ((with_reducible show wpAny _ _ (subscriptTail _ _ (Value.ref _) (Value.int 0 _)) _ _ _); refine itemT_head (by k_asm) (by assumption) ?_; k_whole) | (refine itemL_at (by k_asm) (by assumption) (by first | assumption | rfl) (by ktr_units) (by ktr_units) ?_; k_whole)) | ((with_reducible show wpAny _ _ (call (Value.builtin "len") [Value.ref _]) _ _ _); refine PyProof.Rows.len_list (Fr.lst (by k_asm) (by assumption)) (by ktr_units) ?_; k_whole) | ((with_reducible show wpAny _ _ (spliced _) _ _ _); refine' args_plain ?qSS ?qFF ?qkk ?qPP ?_; (case qSS => rfl); (case qFF => k_asm); (case qkk => rfl); (case qPP => repeat' first | exact Plain.nil | (apply Plain.name; exact rfl; exact rfl; decide) | apply Plain.none | apply Plain.bool | apply Plain.int | apply Plain.str); k_whole; (try dsimp only [List.cons_append, List.nil_append])) | walk1) <;> first | (with_reducible show wpAny _ _ (subscriptTail _ (PySem.Expr.Slice _ _ _ _) _ _) _ _ _) | (try dsimp only)) | (dsimp only; walk1) | (leave1; try dsimp only) | fail "no step"))
  all_goals (try dsimp only)
  all_goals (rename Fr _ _ _ _ => F)
  all_goals first | exact hQ _ _ (fun b o e => F.keep b o (k b o e)) | contradiction | (exfalso; omega)
set_option maxRecDepth 100000 in
set_option maxHeartbeats 8000000 in
theorem written_a {w : World} {mean : ExcName → Option Value} {mg mb : Str → Option Value} {h₀ : Heap} {s : Shared} {dp un : Nat} {gd : Option (List Code)} {fr : Option (List Env)} {body bl pt bk sl : Addr} {tv : Value} {bvs svs : List Value} {b i : Int} {tb ti : Tok} {Q E : Value → Shared → Prop} {st G rv : Addr} {t : Tok}
    (X : (Mine.hd.heap_1 w.params).In h₀) (T : Top Mine.vw (looseW Mine.vw []) mean mg mb h₀) (st0 : h₀.StaysIn s.heap)
    (hd : dp + 1 < recursionLimit) (hu : un + 100 < cLine)
    (hB : BodyAt s.heap body bl) (hbl : s.heap.IsList bl bvs.toArray) (hbk : bvs[b.toNat]? = some (.ref bk)) (hbk2 : s.heap.IsList bk [.ref sl, tv].toArray) (hsl : s.heap.IsList sl svs.toArray) (hp : IsTup s.heap pt [.int b tb, .int i ti].toArray)
    (b0 : 0 ≤ b) (b1 : b < 1000) (i0 : 0 ≤ i) (i1 : i < 1000) (z2 : svs.length < 1000) (hi : i < svs.length) (hs : svs[i.toNat]? = some (.ref st)) (h1 : IsTup s.heap st [.str sAssign t, .ref G, .ref rv].toArray)
    (hQ : ∀ h' tk', s.heap.StaysIn h' → Q (.ref G) { s with heap := h', toks := tk' }) :
    wpAny (model PySem.Challenge.pw_xm0585_01 w) (arnd dp un gd fr) (call (.ref 126) [.ref body, .ref pt]) Q E s := by
  refine' enter (news := []) X T st0 (fun _ h => nomatch h) (fun _ h => nomatch h) ?ho ?hcd ?hroom ?hbind ?hloc ?_ ?c2 ?c3 ?c4 ?c5
  ((case ho => k_dflt k_is); (case hcd => k_dflt k_is); (case hroom => ktr_room); (case hbind => exact BindsTo.of_eq rfl); (case c2 => decide); (case c3 => exact rfl); (case c4 => exact rfl); (case c5 => exact rfl); (case hloc => exact locs rfl))
  intro g L' h₁' st1 st2 keep F' N' X' T' nL l1 d' u' fr' hd' hu'
  change Fr _ _ _ (fun y => List.lookup y [(_, _), (_, _)]) at F'
  refine hide (fun P9 toP9 => ?_)
  have k : ∀ b o, s.heap.get? b = some o → g.get? b = some o := fun b o e => keep b o e (fun h => nomatch h)
  obtain ⟨dx, k1, k2, k3, k4, k5, t1', t2', t3', t4', t5', v1, v2, v3, v5, n, hB1, hB2⟩ := hB
  replace hB1 := k _ _ hB1; replace hB2 := k _ _ hB2
  replace hbl := hbl.at (k bl); replace hbk2 := hbk2.at (k bk); replace hsl := hsl.at (k sl); replace hp := hp.keeps k
  have hz : svs.toArray.size = svs.length := List.size_toArray
  replace h1 := h1.keeps k
  (refine toP9 ?_; clear toP9 P9)
  (try dsimp only)
  (repeat' (first | (k_unfold; (try dsimp only)) | (k_end; wrow_close) | ((first | ((with_reducible show wpAny _ _ (compareOp CmpOp.In (Value.str _ _) (Value.ref _)) _ _ _); refine in_two_no (News.isTup (by k_asm) (by k_mem)) (by assumption) (by assumption) ?_; k_whole) | ((with_reducible show wpAny _ _ (compareOp CmpOp.Eq (Value.str _ _) (Value.str _ _)) _ _ _); refine eq_str_no (by assumption) ?_) | ((with_reducible show wpAny _ _ (subscriptTail _ _ (Value.ref _) (Value.int _ _)) _ _ _); first | (refine item_tupleT (Fr.tup (by k_asm) (by assumption)) (by decide) (by decide) (by rfl) (by rfl) ?_; k_whole) | ((with_reducible show wpAny _ _ (subscriptTail _ _ (Value.ref _) (Value.int 0 _)) _ _ _); refine itemT_head (by k_asm) (by assumption) ?_; k_whole) | (refine itemL_at (by k_asm) (by assumption) (by first | assumption | rfl) (by ktr_units) (by ktr_units) ?_; k_whole)) | ((with_reducible show wpAny _ _ (call (Value.builtin "len") [Value.ref _]) _ _ _); refine PyProof.Rows.len_list (Fr.lst (by k_asm) (by assumption)) (by ktr_units) ?_; k_whole) | ((with_reducible show wpAny _ _ (spliced _) _ _ _); refine' args_plain ?qSS ?qFF ?qkk ?qPP ?_; (case qSS => rfl); (case qFF => k_asm); (case qkk => rfl); (case qPP => repeat' first | exact Plain.nil | (apply Plain.name; exact rfl; exact rfl; decide) | apply Plain.none | apply Plain.bool | apply Plain.int | apply Plain.str); k_whole; (try dsimp only [List.cons_append, List.nil_append])) | walk1) <;> first | (with_reducible show wpAny _ _ (subscriptTail _ (PySem.Expr.Slice _ _ _ _) _ _) _ _ _) | (try dsimp only)) | (dsimp only; walk1) | (leave1; try dsimp only) | fail "no step"))
  all_goals (try dsimp only)
  all_goals (rename Fr _ _ _ _ => F)
  all_goals first | exact hQ _ _ (fun b o e => F.keep b o (k b o e)) | contradiction | (exfalso; omega)
set_option maxRecDepth 100000 in
set_option maxHeartbeats 8000000 in
theorem written_b {w : World} {mean : ExcName → Option Value} {mg mb : Str → Option Value} {h₀ : Heap} {s : Shared} {dp un : Nat} {gd : Option (List Code)} {fr : Option (List Env)} {body bl pt bk sl : Addr} {tv : Value} {bvs svs : List Value} {b i : Int} {tb ti : Tok} {Q E : Value → Shared → Prop} {st : Addr} {t : Tok} {x : Str} {rest : List Value}
    (X : (Mine.hd.heap_1 w.params).In h₀) (T : Top Mine.vw (looseW Mine.vw []) mean mg mb h₀) (st0 : h₀.StaysIn s.heap)
    (hd : dp + 1 < recursionLimit) (hu : un + 100 < cLine)
    (hB : BodyAt s.heap body bl) (hbl : s.heap.IsList bl bvs.toArray) (hbk : bvs[b.toNat]? = some (.ref bk)) (hbk2 : s.heap.IsList bk [.ref sl, tv].toArray) (hsl : s.heap.IsList sl svs.toArray) (hp : IsTup s.heap pt [.int b tb, .int i ti].toArray)
    (b0 : 0 ≤ b) (b1 : b < 1000) (i0 : 0 ≤ i) (i1 : i < 1000) (z2 : svs.length < 1000) (hi : i < svs.length) (hs : svs[i.toNat]? = some (.ref st)) (h1 : IsTup s.heap st (.str x t :: rest).toArray) (x1 : x ≠ sAssign)
    (hQ : ∀ h' tk', s.heap.StaysIn h' → Q (.none) { s with heap := h', toks := tk' }) :
    wpAny (model PySem.Challenge.pw_xm0585_01 w) (arnd dp un gd fr) (call (.ref 126) [.ref body, .ref pt]) Q E s := by
  refine' enter (news := []) X T st0 (fun _ h => nomatch h) (fun _ h => nomatch h) ?ho ?hcd ?hroom ?hbind ?hloc ?_ ?c2 ?c3 ?c4 ?c5
  ((case ho => k_dflt k_is); (case hcd => k_dflt k_is); (case hroom => ktr_room); (case hbind => exact BindsTo.of_eq rfl); (case c2 => decide); (case c3 => exact rfl); (case c4 => exact rfl); (case c5 => exact rfl); (case hloc => exact locs rfl))
  intro g L' h₁' st1 st2 keep F' N' X' T' nL l1 d' u' fr' hd' hu'
  change Fr _ _ _ (fun y => List.lookup y [(_, _), (_, _)]) at F'
  refine hide (fun P9 toP9 => ?_)
  have k : ∀ b o, s.heap.get? b = some o → g.get? b = some o := fun b o e => keep b o e (fun h => nomatch h)
  obtain ⟨dx, k1, k2, k3, k4, k5, t1', t2', t3', t4', t5', v1, v2, v3, v5, n, hB1, hB2⟩ := hB
  replace hB1 := k _ _ hB1; replace hB2 := k _ _ hB2
  replace hbl := hbl.at (k bl); replace hbk2 := hbk2.at (k bk); replace hsl := hsl.at (k sl); replace hp := hp.keeps k
  have hz : svs.toArray.size = svs.length := List.size_toArray
  replace h1 := h1.keeps k
  (refine toP9 ?_; clear toP9 P9)
  (try dsimp only)
  (repeat' (first | (k_unfold; (try dsimp only)) | (k_end; wrow_close) | ((first | ((with_reducible show wpAny _ _ (compareOp CmpOp.In (Value.str _ _) (Value.ref _)) _ _ _); refine in_two_no (News.isTup (by k_asm) (by k_mem)) (by assumption) (by assumption) ?_; k_whole) | ((with_reducible show wpAny _ _ (compareOp CmpOp.Eq (Value.str _ _) (Value.str _ _)) _ _ _); refine eq_str_no (by assumption) ?_) | ((with_reducible show wpAny _ _ (subscriptTail _ _ (Value.ref _) (Value.int _ _)) _ _ _); first | (refine item_tupleT (Fr.tup (by k_asm) (by assumption)) (by decide) (by decide) (by rfl) (by rfl) ?_; k_whole) | ((with_reducible show wpAny _ _ (subscriptTail _ _ (Value.ref _) (Value.int 0 _)) _ _ _); refine itemT_head (by k_asm) (by assumption) ?_; k_whole) | (refine itemL_at (by k_asm) (by assumption) (by first | assumption | rfl) (by ktr_units) (by ktr_units) ?_; k_whole)) | ((with_reducible show wpAny _ _ (call (Value.builtin "len") [Value.ref _]) _ _ _); refine PyProof.Rows.len_list (Fr.lst (by k_asm) (by assumption)) (by ktr_units) ?_; k_whole) | ((with_reducible show wpAny _ _ (spliced _) _ _ _); refine' args_plain ?qSS ?qFF ?qkk ?qPP ?_; (case qSS => rfl); (case qFF => k_asm); (case qkk => rfl); (case qPP => repeat' first | exact Plain.nil | (apply Plain.name; exact rfl; exact rfl; decide) | apply Plain.none | apply Plain.bool | apply Plain.int | apply Plain.str); k_whole; (try dsimp only [List.cons_append, List.nil_append])) | walk1) <;> first | (with_reducible show wpAny _ _ (subscriptTail _ (PySem.Expr.Slice _ _ _ _) _ _) _ _ _) | (try dsimp only)) | (dsimp only; walk1) | (leave1; try dsimp only) | fail "no step"))
  all_goals (try dsimp only)
  all_goals (rename Fr _ _ _ _ => F)
  all_goals first | exact hQ _ _ (fun b o e => F.keep b o (k b o e)) | contradiction | (exfalso; omega)
set_option maxRecDepth 100000 in
set_option maxHeartbeats 8000000 in
theorem written_c {w : World} {mean : ExcName → Option Value} {mg mb : Str → Option Value} {h₀ : Heap} {s : Shared} {dp un : Nat} {gd : Option (List Code)} {fr : Option (List Env)} {body bl pt bk sl : Addr} {tv : Value} {bvs svs : List Value} {b i : Int} {tb ti : Tok} {Q E : Value → Shared → Prop} {tm P : Addr} {t : Tok} {f a back : Value}
    (X : (Mine.hd.heap_1 w.params).In h₀) (T : Top Mine.vw (looseW Mine.vw []) mean mg mb h₀) (st0 : h₀.StaysIn s.heap)
    (hd : dp + 1 < recursionLimit) (hu : un + 100 < cLine)
    (hB : BodyAt s.heap body bl) (hbl : s.heap.IsList bl bvs.toArray) (hbk : bvs[b.toNat]? = some (.ref bk)) (hbk2 : s.heap.IsList bk [.ref sl, tv].toArray) (hsl : s.heap.IsList sl svs.toArray) (hp : IsTup s.heap pt [.int b tb, .int i ti].toArray)
    (b0 : 0 ≤ b) (b1 : b < 1000) (i0 : 0 ≤ i) (i1 : i < 1000) (z2 : svs.length < 1000) (hi : i = svs.length) (ht : tv = .ref tm) (h1 : IsTup s.heap tm [.str (Str.ofString "call") t, f, a, .ref P, back].toArray)
    (hQ : ∀ h' tk', s.heap.StaysIn h' → Q (.ref P) { s with heap := h', toks := tk' }) :
    wpAny (model PySem.Challenge.pw_xm0585_01 w) (arnd dp un gd fr) (call (.ref 126) [.ref body, .ref pt]) Q E s := by
  refine' enter (news := []) X T st0 (fun _ h => nomatch h) (fun _ h => nomatch h) ?ho ?hcd ?hroom ?hbind ?hloc ?_ ?c2 ?c3 ?c4 ?c5
  ((case ho => k_dflt k_is); (case hcd => k_dflt k_is); (case hroom => ktr_room); (case hbind => exact BindsTo.of_eq rfl); (case c2 => decide); (case c3 => exact rfl); (case c4 => exact rfl); (case c5 => exact rfl); (case hloc => exact locs rfl))
  intro g L' h₁' st1 st2 keep F' N' X' T' nL l1 d' u' fr' hd' hu'
  change Fr _ _ _ (fun y => List.lookup y [(_, _), (_, _)]) at F'
  have k : ∀ b o, s.heap.get? b = some o → g.get? b = some o := fun b o e => keep b o e (fun h => nomatch h)
  refine hide (fun P9 toP9 => ?_)
  obtain ⟨dx, k1, k2, k3, k4, k5, t1', t2', t3', t4', t5', v1, v2, v3, v5, n, hB1, hB2⟩ := hB
  (refine toP9 ?_; clear toP9 P9)
  replace hB1 := k _ _ hB1; replace hB2 := k _ _ hB2
  replace hbl := hbl.at (k bl); replace hbk2 := hbk2.at (k bk); replace hsl := hsl.at (k sl); replace hp := hp.keeps k
  have hz : svs.toArray.size = svs.length := List.size_toArray
  subst ht; replace h1 := h1.keeps k
  (try dsimp only)
  (repeat' (first | (k_unfold; (try dsimp only)) | (k_end; wrow_close) | ((first | ((with_reducible show wpAny _ _ (compareOp CmpOp.In (Value.str _ _) (Value.ref _)) _ _ _); refine in_two_no (News.isTup (by k_asm) (by k_mem)) (by assumption) (by assumption) ?_; k_whole) | ((with_reducible show wpAny _ _ (compareOp CmpOp.Eq (Value.str _ _) (Value.str _ _)) _ _ _); refine eq_str_no (by assumption) ?_) | ((with_reducible show wpAny _ _ (subscriptTail _ _ (Value.ref _) (Value.int _ _)) _ _ _); first | (refine item_tupleT (Fr.tup (by k_asm) (by assumption)) (by decide) (by decide) (by rfl) (by rfl) ?_; k_whole) | ((with_reducible show wpAny _ _ (subscriptTail _ _ (Value.ref _) (Value.int 0 _)) _ _ _); refine itemT_head (by k_asm) (by assumption) ?_; k_whole) | (refine itemL_at (by k_asm) (by assumption) (by first | assumption | rfl) (by ktr_units) (by ktr_units) ?_; k_whole)) | ((with_reducible show wpAny _ _ (call (Value.builtin "len") [Value.ref _]) _ _ _); refine PyProof.Rows.len_list (Fr.lst (by k_asm) (by assumption)) (by ktr_units) ?_; k_whole) | ((with_reducible show wpAny _ _ (spliced _) _ _ _); refine' args_plain ?qSS ?qFF ?qkk ?qPP ?_; (case qSS => rfl); (case qFF => k_asm); (case qkk => rfl); (case qPP => repeat' first | exact Plain.nil | (apply Plain.name; exact rfl; exact rfl; decide) | apply Plain.none | apply Plain.bool | apply Plain.int | apply Plain.str); k_whole; (try dsimp only [List.cons_append, List.nil_append])) | walk1) <;> first | (with_reducible show wpAny _ _ (subscriptTail _ (PySem.Expr.Slice _ _ _ _) _ _) _ _ _) | (try dsimp only)) | (dsimp only; walk1) | (leave1; try dsimp only) | fail "no step"))
  all_goals (try dsimp only)
  all_goals (rename Fr _ _ _ _ => F)
  all_goals first | exact hQ _ _ (fun b o e => F.keep b o (k b o e)) | contradiction | (exfalso; omega)
set_option maxRecDepth 100000 in
set_option maxHeartbeats 8000000 in
theorem written_d {w : World} {mean : ExcName → Option Value} {mg mb : Str → Option Value} {h₀ : Heap} {s : Shared} {dp un : Nat} {gd : Option (List Code)} {fr : Option (List Env)} {body bl pt bk sl : Addr} {tv : Value} {bvs svs : List Value} {b i : Int} {tb ti : Tok} {Q E : Value → Shared → Prop} {tm : Addr} {t : Tok} {x : Str} {rest : List Value}
    (X : (Mine.hd.heap_1 w.params).In h₀) (T : Top Mine.vw (looseW Mine.vw []) mean mg mb h₀) (st0 : h₀.StaysIn s.heap)
    (hd : dp + 1 < recursionLimit) (hu : un + 100 < cLine)
    (hB : BodyAt s.heap body bl) (hbl : s.heap.IsList bl bvs.toArray) (hbk : bvs[b.toNat]? = some (.ref bk)) (hbk2 : s.heap.IsList bk [.ref sl, tv].toArray) (hsl : s.heap.IsList sl svs.toArray) (hp : IsTup s.heap pt [.int b tb, .int i ti].toArray)
    (b0 : 0 ≤ b) (b1 : b < 1000) (i0 : 0 ≤ i) (i1 : i < 1000) (z2 : svs.length < 1000) (hi : i = svs.length) (ht : tv = .ref tm) (h1 : IsTup s.heap tm (.str x t :: rest).toArray) (x1 : x ≠ Str.ofString "call")
    (hQ : ∀ h' tk', s.heap.StaysIn h' → Q (.none) { s with heap := h', toks := tk' }) :
    wpAny (model PySem.Challenge.pw_xm0585_01 w) (arnd dp un gd fr) (call (.ref 126) [.ref body, .ref pt]) Q E s := by
  refine' enter (news := []) X T st0 (fun _ h => nomatch h) (fun _ h => nomatch h) ?ho ?hcd ?hroom ?hbind ?hloc ?_ ?c2 ?c3 ?c4 ?c5
  ((case ho => k_dflt k_is); (case hcd => k_dflt k_is); (case hroom => ktr_room); (case hbind => exact BindsTo.of_eq rfl); (case c2 => decide); (case c3 => exact rfl); (case c4 => exact rfl); (case c5 => exact rfl); (case hloc => exact locs rfl))
  intro g L' h₁' st1 st2 keep F' N' X' T' nL l1 d' u' fr' hd' hu'
  change Fr _ _ _ (fun y => List.lookup y [(_, _), (_, _)]) at F'
  have k : ∀ b o, s.heap.get? b = some o → g.get? b = some o := fun b o e => keep b o e (fun h => nomatch h)
  refine hide (fun P9 toP9 => ?_)
  obtain ⟨dx, k1, k2, k3, k4, k5, t1', t2', t3', t4', t5', v1, v2, v3, v5, n, hB1, hB2⟩ := hB
  (refine toP9 ?_; clear toP9 P9)
  replace hB1 := k _ _ hB1; replace hB2 := k _ _ hB2
  replace hbl := hbl.at (k bl); replace hbk2 := hbk2.at (k bk); replace hsl := hsl.at (k sl); replace hp := hp.keeps k
  have hz : svs.toArray.size = svs.length := List.size_toArray
  subst ht; replace h1 := h1.keeps k
  (try dsimp only)
  (repeat' (first | (k_unfold; (try dsimp only)) | (k_end; wrow_close) | ((first | ((with_reducible show wpAny _ _ (compareOp CmpOp.In (Value.str _ _) (Value.ref _)) _ _ _); refine in_two_no (News.isTup (by k_asm) (by k_mem)) (by assumption) (by assumption) ?_; k_whole) | ((with_reducible show wpAny _ _ (compareOp CmpOp.Eq (Value.str _ _) (Value.str _ _)) _ _ _); refine eq_str_no (by assumption) ?_) | ((with_reducible show wpAny _ _ (subscriptTail _ _ (Value.ref _) (Value.int _ _)) _ _ _); first | (refine item_tupleT (Fr.tup (by k_asm) (by assumption)) (by decide) (by decide) (by rfl) (by rfl) ?_; k_whole) | ((with_reducible show wpAny _ _ (subscriptTail _ _ (Value.ref _) (Value.int 0 _)) _ _ _); refine itemT_head (by k_asm) (by assumption) ?_; k_whole) | (refine itemL_at (by k_asm) (by assumption) (by first | assumption | rfl) (by ktr_units) (by ktr_units) ?_; k_whole)) | ((with_reducible show wpAny _ _ (call (Value.builtin "len") [Value.ref _]) _ _ _); refine PyProof.Rows.len_list (Fr.lst (by k_asm) (by assumption)) (by ktr_units) ?_; k_whole) | ((with_reducible show wpAny _ _ (spliced _) _ _ _); refine' args_plain ?qSS ?qFF ?qkk ?qPP ?_; (case qSS => rfl); (case qFF => k_asm); (case qkk => rfl); (case qPP => repeat' first | exact Plain.nil | (apply Plain.name; exact rfl; exact rfl; decide) | apply Plain.none | apply Plain.bool | apply Plain.int | apply Plain.str); k_whole; (try dsimp only [List.cons_append, List.nil_append])) | walk1) <;> first | (with_reducible show wpAny _ _ (subscriptTail _ (PySem.Expr.Slice _ _ _ _) _ _) _ _ _) | (try dsimp only)) | (dsimp only; walk1) | (leave1; try dsimp only) | fail "no step"))
  all_goals (try dsimp only)
  all_goals (rename Fr _ _ _ _ => F)
  all_goals first | exact hQ _ _ (fun b o e => F.keep b o (k b o e)) | contradiction | (exfalso; omega)
set_option maxRecDepth 100000 in
set_option maxHeartbeats 8000000 in
theorem dropped_a {w : World} {mean : ExcName → Option Value} {mg mb : Str → Option Value} {h₀ : Heap} {s : Shared} {dp un : Nat} {gd : Option (List Code)} {fr : Option (List Env)} {body bl pt bk sl : Addr} {tv : Value} {bvs svs : List Value} {b i : Int} {tb ti : Tok} {Q E : Value → Shared → Prop} 
    (X : (Mine.hd.heap_1 w.params).In h₀) (T : Top Mine.vw (looseW Mine.vw []) mean mg mb h₀) (st0 : h₀.StaysIn s.heap)
    (hd : dp + 1 < recursionLimit) (hu : un + 100 < cLine)
    (hB : BodyAt s.heap body bl) (hbl : s.heap.IsList bl bvs.toArray) (hbk : bvs[b.toNat]? = some (.ref bk)) (hbk2 : s.heap.IsList bk [.ref sl, tv].toArray) (hsl : s.heap.IsList sl svs.toArray) (hp : IsTup s.heap pt [.int b tb, .int i ti].toArray)
    (b0 : 0 ≤ b) (b1 : b < 1000) (i0 : 0 ≤ i) (i1 : i < 1000) (z2 : svs.length < 1000) (hi : i < svs.length)
    (hQ : ∀ h' tk', s.heap.StaysIn h' → Q (.none) { s with heap := h', toks := tk' }) :
    wpAny (model PySem.Challenge.pw_xm0585_01 w) (arnd dp un gd fr) (call (.ref 133) [.ref body, .ref pt]) Q E s := by
  refine' enter (news := []) X T st0 (fun _ h => nomatch h) (fun _ h => nomatch h) ?ho ?hcd ?hroom ?hbind ?hloc ?_ ?c2 ?c3 ?c4 ?c5
  ((case ho => k_dflt k_is); (case hcd => k_dflt k_is); (case hroom => ktr_room); (case hbind => exact BindsTo.of_eq rfl); (case c2 => decide); (case c3 => exact rfl); (case c4 => exact rfl); (case c5 => exact rfl); (case hloc => exact locs rfl))
  intro g L' h₁' st1 st2 keep F' N' X' T' nL l1 d' u' fr' hd' hu'
  change Fr _ _ _ (fun y => List.lookup y [(_, _), (_, _)]) at F'
  refine hide (fun P9 toP9 => ?_)
  have k : ∀ b o, s.heap.get? b = some o → g.get? b = some o := fun b o e => keep b o e (fun h => nomatch h)
  obtain ⟨dx, k1, k2, k3, k4, k5, t1', t2', t3', t4', t5', v1, v2, v3, v5, n, hB1, hB2⟩ := hB
  replace hB1 := k _ _ hB1; replace hB2 := k _ _ hB2
  replace hbl := hbl.at (k bl); replace hbk2 := hbk2.at (k bk); replace hsl := hsl.at (k sl); replace hp := hp.keeps k
  have hz : svs.toArray.size = svs.length := List.size_toArray
  skip
  (refine toP9 ?_; clear toP9 P9)
  (try dsimp only)
  (repeat' (first | (k_unfold; (try dsimp only)) | (k_end; wrow_close) | ((first | ((with_reducible show wpAny _ _ (compareOp CmpOp.In (Value.str _ _) (Value.ref _)) _ _ _); refine in_two_no (News.isTup (by k_asm) (by k_mem)) (by assumption) (by assumption) ?_; k_whole) | ((with_reducible show wpAny _ _ (compareOp CmpOp.Eq (Value.str _ _) (Value.str _ _)) _ _ _); refine eq_str_no (by assumption) ?_) | ((with_reducible show wpAny _ _ (subscriptTail _ _ (Value.ref _) (Value.int _ _)) _ _ _); first | (refine item_tupleT (Fr.tup (by k_asm) (by assumption)) (by decide) (by decide) (by rfl) (by rfl) ?_; k_whole) | ((with_reducible show wpAny _ _ (subscriptTail _ _ (Value.ref _) (Value.int 0 _)) _ _ _); refine itemT_head (by k_asm) (by assumption) ?_; k_whole) | (refine itemL_at (by k_asm) (by assumption) (by first | assumption | rfl) (by ktr_units) (by ktr_units) ?_; k_whole)) | ((with_reducible show wpAny _ _ (call (Value.builtin "len") [Value.ref _]) _ _ _); refine PyProof.Rows.len_list (Fr.lst (by k_asm) (by assumption)) (by ktr_units) ?_; k_whole) | ((with_reducible show wpAny _ _ (spliced _) _ _ _); refine' args_plain ?qSS ?qFF ?qkk ?qPP ?_; (case qSS => rfl); (case qFF => k_asm); (case qkk => rfl); (case qPP => repeat' first | exact Plain.nil | (apply Plain.name; exact rfl; exact rfl; decide) | apply Plain.none | apply Plain.bool | apply Plain.int | apply Plain.str); k_whole; (try dsimp only [List.cons_append, List.nil_append])) | walk1) <;> first | (with_reducible show wpAny _ _ (subscriptTail _ (PySem.Expr.Slice _ _ _ _) _ _) _ _ _) | (try dsimp only)) | (dsimp only; walk1) | (leave1; try dsimp only) | fail "no step"))
  all_goals (try dsimp only)
  all_goals (rename Fr _ _ _ _ => F)
  all_goals first | exact hQ _ _ (fun b o e => F.keep b o (k b o e)) | contradiction | (exfalso; omega)
set_option maxRecDepth 100000 in
set_option maxHeartbeats 8000000 in
theorem dropped_b {w : World} {mean : ExcName → Option Value} {mg mb : Str → Option Value} {h₀ : Heap} {s : Shared} {dp un : Nat} {gd : Option (List Code)} {fr : Option (List Env)} {body bl pt bk sl : Addr} {tv : Value} {bvs svs : List Value} {b i : Int} {tb ti : Tok} {Q E : Value → Shared → Prop} {tm P : Addr} {t : Tok} {g0 : Value}
    (X : (Mine.hd.heap_1 w.params).In h₀) (T : Top Mine.vw (looseW Mine.vw []) mean mg mb h₀) (st0 : h₀.StaysIn s.heap)
    (hd : dp + 1 < recursionLimit) (hu : un + 100 < cLine)
    (hB : BodyAt s.heap body bl) (hbl : s.heap.IsList bl bvs.toArray) (hbk : bvs[b.toNat]? = some (.ref bk)) (hbk2 : s.heap.IsList bk [.ref sl, tv].toArray) (hsl : s.heap.IsList sl svs.toArray) (hp : IsTup s.heap pt [.int b tb, .int i ti].toArray)
    (b0 : 0 ≤ b) (b1 : b < 1000) (i0 : 0 ≤ i) (i1 : i < 1000) (z2 : svs.length < 1000) (hi : i = svs.length) (ht : tv = .ref tm) (h1 : IsTup s.heap tm [.str (Str.ofString "drop") t, .ref P, g0].toArray)
    (hQ : ∀ h' tk', s.heap.StaysIn h' → Q (.ref P) { s with heap := h', toks := tk' }) :
    wpAny (model PySem.Challenge.pw_xm0585_01 w) (arnd dp un gd fr) (call (.ref 133) [.ref body, .ref pt]) Q E s := by
  refine' enter (news := []) X T st0 (fun _ h => nomatch h) (fun _ h => nomatch h) ?ho ?hcd ?hroom ?hbind ?hloc ?_ ?c2 ?c3 ?c4 ?c5
  ((case ho => k_dflt k_is); (case hcd => k_dflt k_is); (case hroom => ktr_room); (case hbind => exact BindsTo.of_eq rfl); (case c2 => decide); (case c3 => exact rfl); (case c4 => exact rfl); (case c5 => exact rfl); (case hloc => exact locs rfl))
  intro g L' h₁' st1 st2 keep F' N' X' T' nL l1 d' u' fr' hd' hu'
  change Fr _ _ _ (fun y => List.lookup y [(_, _), (_, _)]) at F'
  have k : ∀ b o, s.heap.get? b = some o → g.get? b = some o := fun b o e => keep b o e (fun h => nomatch h)
  refine hide (fun P9 toP9 => ?_)
  obtain ⟨dx, k1, k2, k3, k4, k5, t1', t2', t3', t4', t5', v1, v2, v3, v5, n, hB1, hB2⟩ := hB
  (refine toP9 ?_; clear toP9 P9)
  replace hB1 := k _ _ hB1; replace hB2 := k _ _ hB2
  replace hbl := hbl.at (k bl); replace hbk2 := hbk2.at (k bk); replace hsl := hsl.at (k sl); replace hp := hp.keeps k
  have hz : svs.toArray.size = svs.length := List.size_toArray
  subst ht; replace h1 := h1.keeps k
  (try dsimp only)
  (repeat' (first | (k_unfold; (try dsimp only)) | (k_end; wrow_close) | ((first | ((with_reducible show wpAny _ _ (compareOp CmpOp.In (Value.str _ _) (Value.ref _)) _ _ _); refine in_two_no (News.isTup (by k_asm) (by k_mem)) (by assumption) (by assumption) ?_; k_whole) | ((with_reducible show wpAny _ _ (compareOp CmpOp.Eq (Value.str _ _) (Value.str _ _)) _ _ _); refine eq_str_no (by assumption) ?_) | ((with_reducible show wpAny _ _ (subscriptTail _ _ (Value.ref _) (Value.int _ _)) _ _ _); first | (refine item_tupleT (Fr.tup (by k_asm) (by assumption)) (by decide) (by decide) (by rfl) (by rfl) ?_; k_whole) | ((with_reducible show wpAny _ _ (subscriptTail _ _ (Value.ref _) (Value.int 0 _)) _ _ _); refine itemT_head (by k_asm) (by assumption) ?_; k_whole) | (refine itemL_at (by k_asm) (by assumption) (by first | assumption | rfl) (by ktr_units) (by ktr_units) ?_; k_whole)) | ((with_reducible show wpAny _ _ (call (Value.builtin "len") [Value.ref _]) _ _ _); refine PyProof.Rows.len_list (Fr.lst (by k_asm) (by assumption)) (by ktr_units) ?_; k_whole) | ((with_reducible show wpAny _ _ (spliced _) _ _ _); refine' args_plain ?qSS ?qFF ?qkk ?qPP ?_; (case qSS => rfl); (case qFF => k_asm); (case qkk => rfl); (case qPP => repeat' first | exact Plain.nil | (apply Plain.name; exact rfl; exact rfl; decide) | apply Plain.none | apply Plain.bool | apply Plain.int | apply Plain.str); k_whole; (try dsimp only [List.cons_append, List.nil_append])) | walk1) <;> first | (with_reducible show wpAny _ _ (subscriptTail _ (PySem.Expr.Slice _ _ _ _) _ _) _ _ _) | (try dsimp only)) | (dsimp only; walk1) | (leave1; try dsimp only) | fail "no step"))
  all_goals (try dsimp only)
  all_goals (rename Fr _ _ _ _ => F)
  all_goals first | exact hQ _ _ (fun b o e => F.keep b o (k b o e)) | contradiction | (exfalso; omega)
set_option maxRecDepth 100000 in
set_option maxHeartbeats 8000000 in
theorem dropped_c {w : World} {mean : ExcName → Option Value} {mg mb : Str → Option Value} {h₀ : Heap} {s : Shared} {dp un : Nat} {gd : Option (List Code)} {fr : Option (List Env)} {body bl pt bk sl : Addr} {tv : Value} {bvs svs : List Value} {b i : Int} {tb ti : Tok} {Q E : Value → Shared → Prop} {tm : Addr} {t : Tok} {x : Str} {rest : List Value}
    (X : (Mine.hd.heap_1 w.params).In h₀) (T : Top Mine.vw (looseW Mine.vw []) mean mg mb h₀) (st0 : h₀.StaysIn s.heap)
    (hd : dp + 1 < recursionLimit) (hu : un + 100 < cLine)
    (hB : BodyAt s.heap body bl) (hbl : s.heap.IsList bl bvs.toArray) (hbk : bvs[b.toNat]? = some (.ref bk)) (hbk2 : s.heap.IsList bk [.ref sl, tv].toArray) (hsl : s.heap.IsList sl svs.toArray) (hp : IsTup s.heap pt [.int b tb, .int i ti].toArray)
    (b0 : 0 ≤ b) (b1 : b < 1000) (i0 : 0 ≤ i) (i1 : i < 1000) (z2 : svs.length < 1000) (hi : i = svs.length) (ht : tv = .ref tm) (h1 : IsTup s.heap tm (.str x t :: rest).toArray) (x1 : x ≠ Str.ofString "drop")
    (hQ : ∀ h' tk', s.heap.StaysIn h' → Q (.none) { s with heap := h', toks := tk' }) :
    wpAny (model PySem.Challenge.pw_xm0585_01 w) (arnd dp un gd fr) (call (.ref 133) [.ref body, .ref pt]) Q E s := by
  refine' enter (news := []) X T st0 (fun _ h => nomatch h) (fun _ h => nomatch h) ?ho ?hcd ?hroom ?hbind ?hloc ?_ ?c2 ?c3 ?c4 ?c5
  ((case ho => k_dflt k_is); (case hcd => k_dflt k_is); (case hroom => ktr_room); (case hbind => exact BindsTo.of_eq rfl); (case c2 => decide); (case c3 => exact rfl); (case c4 => exact rfl); (case c5 => exact rfl); (case hloc => exact locs rfl))
  intro g L' h₁' st1 st2 keep F' N' X' T' nL l1 d' u' fr' hd' hu'
  change Fr _ _ _ (fun y => List.lookup y [(_, _), (_, _)]) at F'
  have k : ∀ b o, s.heap.get? b = some o → g.get? b = some o := fun b o e => keep b o e (fun h => nomatch h)
  refine hide (fun P9 toP9 => ?_)
  obtain ⟨dx, k1, k2, k3, k4, k5, t1', t2', t3', t4', t5', v1, v2, v3, v5, n, hB1, hB2⟩ := hB
  (refine toP9 ?_; clear toP9 P9)
  replace hB1 := k _ _ hB1; replace hB2 := k _ _ hB2
  replace hbl := hbl.at (k bl); replace hbk2 := hbk2.at (k bk); replace hsl := hsl.at (k sl); replace hp := hp.keeps k
  have hz : svs.toArray.size = svs.length := List.size_toArray
  subst ht; replace h1 := h1.keeps k
  (try dsimp only)
  (repeat' (first | (k_unfold; (try dsimp only)) | (k_end; wrow_close) | ((first | ((with_reducible show wpAny _ _ (compareOp CmpOp.In (Value.str _ _) (Value.ref _)) _ _ _); refine in_two_no (News.isTup (by k_asm) (by k_mem)) (by assumption) (by assumption) ?_; k_whole) | ((with_reducible show wpAny _ _ (compareOp CmpOp.Eq (Value.str _ _) (Value.str _ _)) _ _ _); refine eq_str_no (by assumption) ?_) | ((with_reducible show wpAny _ _ (subscriptTail _ _ (Value.ref _) (Value.int _ _)) _ _ _); first | (refine item_tupleT (Fr.tup (by k_asm) (by assumption)) (by decide) (by decide) (by rfl) (by rfl) ?_; k_whole) | ((with_reducible show wpAny _ _ (subscriptTail _ _ (Value.ref _) (Value.int 0 _)) _ _ _); refine itemT_head (by k_asm) (by assumption) ?_; k_whole) | (refine itemL_at (by k_asm) (by assumption) (by first | assumption | rfl) (by ktr_units) (by ktr_units) ?_; k_whole)) | ((with_reducible show wpAny _ _ (call (Value.builtin "len") [Value.ref _]) _ _ _); refine PyProof.Rows.len_list (Fr.lst (by k_asm) (by assumption)) (by ktr_units) ?_; k_whole) | ((with_reducible show wpAny _ _ (spliced _) _ _ _); refine' args_plain ?qSS ?qFF ?qkk ?qPP ?_; (case qSS => rfl); (case qFF => k_asm); (case qkk => rfl); (case qPP => repeat' first | exact Plain.nil | (apply Plain.name; exact rfl; exact rfl; decide) | apply Plain.none | apply Plain.bool | apply Plain.int | apply Plain.str); k_whole; (try dsimp only [List.cons_append, List.nil_append])) | walk1) <;> first | (with_reducible show wpAny _ _ (subscriptTail _ (PySem.Expr.Slice _ _ _ _) _ _) _ _ _) | (try dsimp only)) | (dsimp only; walk1) | (leave1; try dsimp only) | fail "no step"))
  all_goals (try dsimp only)
  all_goals (rename Fr _ _ _ _ => F)
  all_goals first | exact hQ _ _ (fun b o e => F.keep b o (k b o e)) | contradiction | (exfalso; omega)
set_option maxRecDepth 100000 in
set_option maxHeartbeats 8000000 in
theorem turned_a {w : World} {mean : ExcName → Option Value} {mg mb : Str → Option Value} {h₀ : Heap} {s : Shared} {dp un : Nat} {gd : Option (List Code)} {fr : Option (List Env)} {body bl pt bk sl : Addr} {tv : Value} {bvs svs : List Value} {b i : Int} {tb ti : Tok} {Q E : Value → Shared → Prop} {st : Addr} {t t2 : Tok} {x : Str} {k0 : Int}
    (X : (Mine.hd.heap_1 w.params).In h₀) (T : Top Mine.vw (looseW Mine.vw []) mean mg mb h₀) (st0 : h₀.StaysIn s.heap)
    (hd : dp + 1 < recursionLimit) (hu : un + 100 < cLine)
    (hB : BodyAt s.heap body bl) (hbl : s.heap.IsList bl bvs.toArray) (hbk : bvs[b.toNat]? = some (.ref bk)) (hbk2 : s.heap.IsList bk [.ref sl, tv].toArray) (hsl : s.heap.IsList sl svs.toArray) (hp : IsTup s.heap pt [.int b tb, .int i ti].toArray)
    (b0 : 0 ≤ b) (b1 : b < 1000) (i0 : 0 ≤ i) (i1 : i < 1000) (z2 : svs.length < 1000) (hi : i < svs.length) (hs : svs[i.toNat]? = some (.ref st)) (h1 : IsTup s.heap st [.str x t, .int k0 t2].toArray) (x1 : x = sLive ∨ x = sDead)
    (hQ : ∀ h' tk', s.heap.StaysIn h' → Q (.int k0 t2) { s with heap := h', toks := tk' }) :
    wpAny (model PySem.Challenge.pw_xm0585_01 w) (arnd dp un gd fr) (call (.ref 140) [.ref body, .ref pt]) Q E s := by
  refine' enter (news := []) X T st0 (fun _ h => nomatch h) (fun _ h => nomatch h) ?ho ?hcd ?hroom ?hbind ?hloc ?_ ?c2 ?c3 ?c4 ?c5
  ((case ho => k_dflt k_is); (case hcd => k_dflt k_is); (case hroom => ktr_room); (case hbind => exact BindsTo.of_eq rfl); (case c2 => decide); (case c3 => exact rfl); (case c4 => exact rfl); (case c5 => exact rfl); (case hloc => exact locs rfl))
  intro g L' h₁' st1 st2 keep F' N' X' T' nL l1 d' u' fr' hd' hu'
  change Fr _ _ _ (fun y => List.lookup y [(_, _), (_, _)]) at F'
  have k : ∀ b o, s.heap.get? b = some o → g.get? b = some o := fun b o e => keep b o e (fun h => nomatch h)
  refine hide (fun P9 toP9 => ?_)
  obtain ⟨dx, k1, k2, k3, k4, k5, t1', t2', t3', t4', t5', v1, v2, v3, v5, n, hB1, hB2⟩ := hB
  (refine toP9 ?_; clear toP9 P9)
  replace hB1 := k _ _ hB1; replace hB2 := k _ _ hB2
  replace hbl := hbl.at (k bl); replace hbk2 := hbk2.at (k bk); replace hsl := hsl.at (k sl); replace hp := hp.keeps k
  have hz : svs.toArray.size = svs.length := List.size_toArray
  replace h1 := h1.keeps k; rcases x1 with rfl | rfl
  all_goals (try dsimp only)
  all_goals (repeat' (first | (k_unfold; (try dsimp only)) | (k_end; wrow_close) | ((first | ((with_reducible show wpAny _ _ (compareOp CmpOp.In (Value.str _ _) (Value.ref _)) _ _ _); refine in_two_no (News.isTup (by k_asm) (by k_mem)) (by assumption) (by assumption) ?_; k_whole) | ((with_reducible show wpAny _ _ (compareOp CmpOp.Eq (Value.str _ _) (Value.str _ _)) _ _ _); refine eq_str_no (by assumption) ?_) | ((with_reducible show wpAny _ _ (subscriptTail _ _ (Value.ref _) (Value.int _ _)) _ _ _); first | (refine item_tupleT (Fr.tup (by k_asm) (by assumption)) (by decide) (by decide) (by rfl) (by rfl) ?_; k_whole) | ((with_reducible show wpAny _ _ (subscriptTail _ _ (Value.ref _) (Value.int 0 _)) _ _ _); refine itemT_head (by k_asm) (by assumption) ?_; k_whole) | (refine itemL_at (by k_asm) (by assumption) (by first | assumption | rfl) (by ktr_units) (by ktr_units) ?_; k_whole)) | ((with_reducible show wpAny _ _ (call (Value.builtin "len") [Value.ref _]) _ _ _); refine PyProof.Rows.len_list (Fr.lst (by k_asm) (by assumption)) (by ktr_units) ?_; k_whole) | ((with_reducible show wpAny _ _ (spliced _) _ _ _); refine' args_plain ?qSS ?qFF ?qkk ?qPP ?_; (case qSS => rfl); (case qFF => k_asm); (case qkk => rfl); (case qPP => repeat' first | exact Plain.nil | (apply Plain.name; exact rfl; exact rfl; decide) | apply Plain.none | apply Plain.bool | apply Plain.int | apply Plain.str); k_whole; (try dsimp only [List.cons_append, List.nil_append])) | walk1) <;> first | (with_reducible show wpAny _ _ (subscriptTail _ (PySem.Expr.Slice _ _ _ _) _ _) _ _ _) | (try dsimp only)) | (dsimp only; walk1) | (leave1; try dsimp only) | fail "no step"))
  all_goals (try dsimp only)
  all_goals (rename Fr _ _ _ _ => F)
  all_goals first | exact hQ _ _ (fun b o e => F.keep b o (k b o e)) | contradiction | (exfalso; omega)
set_option maxRecDepth 100000 in
set_option maxHeartbeats 8000000 in
theorem turned_b {w : World} {mean : ExcName → Option Value} {mg mb : Str → Option Value} {h₀ : Heap} {s : Shared} {dp un : Nat} {gd : Option (List Code)} {fr : Option (List Env)} {body bl pt bk sl : Addr} {tv : Value} {bvs svs : List Value} {b i : Int} {tb ti : Tok} {Q E : Value → Shared → Prop} {st : Addr} {t : Tok} {x : Str} {rest : List Value}
    (X : (Mine.hd.heap_1 w.params).In h₀) (T : Top Mine.vw (looseW Mine.vw []) mean mg mb h₀) (st0 : h₀.StaysIn s.heap)
    (hd : dp + 1 < recursionLimit) (hu : un + 100 < cLine)
    (hB : BodyAt s.heap body bl) (hbl : s.heap.IsList bl bvs.toArray) (hbk : bvs[b.toNat]? = some (.ref bk)) (hbk2 : s.heap.IsList bk [.ref sl, tv].toArray) (hsl : s.heap.IsList sl svs.toArray) (hp : IsTup s.heap pt [.int b tb, .int i ti].toArray)
    (b0 : 0 ≤ b) (b1 : b < 1000) (i0 : 0 ≤ i) (i1 : i < 1000) (z2 : svs.length < 1000) (hi : i < svs.length) (hs : svs[i.toNat]? = some (.ref st)) (h1 : IsTup s.heap st (.str x t :: rest).toArray) (x1 : x ≠ sLive) (x2 : x ≠ sDead)
    (hQ : ∀ h' tk', s.heap.StaysIn h' → Q (.none) { s with heap := h', toks := tk' }) :
    wpAny (model PySem.Challenge.pw_xm0585_01 w) (arnd dp un gd fr) (call (.ref 140) [.ref body, .ref pt]) Q E s := by
  refine' enter (news := []) X T st0 (fun _ h => nomatch h) (fun _ h => nomatch h) ?ho ?hcd ?hroom ?hbind ?hloc ?_ ?c2 ?c3 ?c4 ?c5
  ((case ho => k_dflt k_is); (case hcd => k_dflt k_is); (case hroom => ktr_room); (case hbind => exact BindsTo.of_eq rfl); (case c2 => decide); (case c3 => exact rfl); (case c4 => exact rfl); (case c5 => exact rfl); (case hloc => exact locs rfl))
  intro g L' h₁' st1 st2 keep F' N' X' T' nL l1 d' u' fr' hd' hu'
  change Fr _ _ _ (fun y => List.lookup y [(_, _), (_, _)]) at F'
  refine hide (fun P9 toP9 => ?_)
  have k : ∀ b o, s.heap.get? b = some o → g.get? b = some o := fun b o e => keep b o e (fun h => nomatch h)
  obtain ⟨dx, k1, k2, k3, k4, k5, t1', t2', t3', t4', t5', v1, v2, v3, v5, n, hB1, hB2⟩ := hB
  replace hB1 := k _ _ hB1; replace hB2 := k _ _ hB2
  replace hbl := hbl.at (k bl); replace hbk2 := hbk2.at (k bk); replace hsl := hsl.at (k sl); replace hp := hp.keeps k
  have hz : svs.toArray.size = svs.length := List.size_toArray
  replace h1 := h1.keeps k
  (refine toP9 ?_; clear toP9 P9)
  (try dsimp only)
  (repeat' (first | (k_unfold; (try dsimp only)) | (k_end; wrow_close) | ((first | ((with_reducible show wpAny _ _ (compareOp CmpOp.In (Value.str _ _) (Value.ref _)) _ _ _); refine in_two_no (News.isTup (by k_asm) (by k_mem)) (by assumption) (by assumption) ?_; k_whole) | ((with_reducible show wpAny _ _ (compareOp CmpOp.Eq (Value.str _ _) (Value.str _ _)) _ _ _); refine eq_str_no (by assumption) ?_) | ((with_reducible show wpAny _ _ (subscriptTail _ _ (Value.ref _) (Value.int _ _)) _ _ _); first | (refine item_tupleT (Fr.tup (by k_asm) (by assumption)) (by decide) (by decide) (by rfl) (by rfl) ?_; k_whole) | ((with_reducible show wpAny _ _ (subscriptTail _ _ (Value.ref _) (Value.int 0 _)) _ _ _); refine itemT_head (by k_asm) (by assumption) ?_; k_whole) | (refine itemL_at (by k_asm) (by assumption) (by first | assumption | rfl) (by ktr_units) (by ktr_units) ?_; k_whole)) | ((with_reducible show wpAny _ _ (call (Value.builtin "len") [Value.ref _]) _ _ _); refine PyProof.Rows.len_list (Fr.lst (by k_asm) (by assumption)) (by ktr_units) ?_; k_whole) | ((with_reducible show wpAny _ _ (spliced _) _ _ _); refine' args_plain ?qSS ?qFF ?qkk ?qPP ?_; (case qSS => rfl); (case qFF => k_asm); (case qkk => rfl); (case qPP => repeat' first | exact Plain.nil | (apply Plain.name; exact rfl; exact rfl; decide) | apply Plain.none | apply Plain.bool | apply Plain.int | apply Plain.str); k_whole; (try dsimp only [List.cons_append, List.nil_append])) | walk1) <;> first | (with_reducible show wpAny _ _ (subscriptTail _ (PySem.Expr.Slice _ _ _ _) _ _) _ _ _) | (try dsimp only)) | (dsimp only; walk1) | (leave1; try dsimp only) | fail "no step"))
  all_goals (try dsimp only)
  all_goals (rename Fr _ _ _ _ => F)
  all_goals first | exact hQ _ _ (fun b o e => F.keep b o (k b o e)) | contradiction | (exfalso; omega)
set_option maxRecDepth 100000 in
set_option maxHeartbeats 8000000 in
theorem turned_c {w : World} {mean : ExcName → Option Value} {mg mb : Str → Option Value} {h₀ : Heap} {s : Shared} {dp un : Nat} {gd : Option (List Code)} {fr : Option (List Env)} {body bl pt bk sl : Addr} {tv : Value} {bvs svs : List Value} {b i : Int} {tb ti : Tok} {Q E : Value → Shared → Prop} 
    (X : (Mine.hd.heap_1 w.params).In h₀) (T : Top Mine.vw (looseW Mine.vw []) mean mg mb h₀) (st0 : h₀.StaysIn s.heap)
    (hd : dp + 1 < recursionLimit) (hu : un + 100 < cLine)
    (hB : BodyAt s.heap body bl) (hbl : s.heap.IsList bl bvs.toArray) (hbk : bvs[b.toNat]? = some (.ref bk)) (hbk2 : s.heap.IsList bk [.ref sl, tv].toArray) (hsl : s.heap.IsList sl svs.toArray) (hp : IsTup s.heap pt [.int b tb, .int i ti].toArray)
    (b0 : 0 ≤ b) (b1 : b < 1000) (i0 : 0 ≤ i) (i1 : i < 1000) (z2 : svs.length < 1000) (hi : i = svs.length)
    (hQ : ∀ h' tk', s.heap.StaysIn h' → Q (.none) { s with heap := h', toks := tk' }) :
    wpAny (model PySem.Challenge.pw_xm0585_01 w) (arnd dp un gd fr) (call (.ref 140) [.ref body, .ref pt]) Q E s := by
  refine' enter (news := []) X T st0 (fun _ h => nomatch h) (fun _ h => nomatch h) ?ho ?hcd ?hroom ?hbind ?hloc ?_ ?c2 ?c3 ?c4 ?c5
  ((case ho => k_dflt k_is); (case hcd => k_dflt k_is); (case hroom => ktr_room); (case hbind => exact BindsTo.of_eq rfl); (case c2 => decide); (case c3 => exact rfl); (case c4 => exact rfl); (case c5 => exact rfl); (case hloc => exact locs rfl))
  intro g L' h₁' st1 st2 keep F' N' X' T' nL l1 d' u' fr' hd' hu'
  change Fr _ _ _ (fun y => List.lookup y [(_, _), (_, _)]) at F'
  refine hide (fun P9 toP9 => ?_)
  have k : ∀ b o, s.heap.get? b = some o → g.get? b = some o := fun b o e => keep b o e (fun h => nomatch h)
  obtain ⟨dx, k1, k2, k3, k4, k5, t1', t2', t3', t4', t5', v1, v2, v3, v5, n, hB1, hB2⟩ := hB
  replace hB1 := k _ _ hB1; replace hB2 := k _ _ hB2
  replace hbl := hbl.at (k bl); replace hbk2 := hbk2.at (k bk); replace hsl := hsl.at (k sl); replace hp := hp.keeps k
  have hz : svs.toArray.size = svs.length := List.size_toArray
  skip
  (refine toP9 ?_; clear toP9 P9)
  (try dsimp only)
  (repeat' (first | (k_unfold; (try dsimp only)) | (k_end; wrow_close) | ((first | ((with_reducible show wpAny _ _ (compareOp CmpOp.In (Value.str _ _) (Value.ref _)) _ _ _); refine in_two_no (News.isTup (by k_asm) (by k_mem)) (by assumption) (by assumption) ?_; k_whole) | ((with_reducible show wpAny _ _ (compareOp CmpOp.Eq (Value.str _ _) (Value.str _ _)) _ _ _); refine eq_str_no (by assumption) ?_) | ((with_reducible show wpAny _ _ (subscriptTail _ _ (Value.ref _) (Value.int _ _)) _ _ _); first | (refine item_tupleT (Fr.tup (by k_asm) (by assumption)) (by decide) (by decide) (by rfl) (by rfl) ?_; k_whole) | ((with_reducible show wpAny _ _ (subscriptTail _ _ (Value.ref _) (Value.int 0 _)) _ _ _); refine itemT_head (by k_asm) (by assumption) ?_; k_whole) | (refine itemL_at (by k_asm) (by assumption) (by first | assumption | rfl) (by ktr_units) (by ktr_units) ?_; k_whole)) | ((with_reducible show wpAny _ _ (call (Value.builtin "len") [Value.ref _]) _ _ _); refine PyProof.Rows.len_list (Fr.lst (by k_asm) (by assumption)) (by ktr_units) ?_; k_whole) | ((with_reducible show wpAny _ _ (spliced _) _ _ _); refine' args_plain ?qSS ?qFF ?qkk ?qPP ?_; (case qSS => rfl); (case qFF => k_asm); (case qkk => rfl); (case qPP => repeat' first | exact Plain.nil | (apply Plain.name; exact rfl; exact rfl; decide) | apply Plain.none | apply Plain.bool | apply Plain.int | apply Plain.str); k_whole; (try dsimp only [List.cons_append, List.nil_append])) | walk1) <;> first | (with_reducible show wpAny _ _ (subscriptTail _ (PySem.Expr.Slice _ _ _ _) _ _) _ _ _) | (try dsimp only)) | (dsimp only; walk1) | (leave1; try dsimp only) | fail "no step"))
  all_goals (try dsimp only)
  all_goals (rename Fr _ _ _ _ => F)
  all_goals first | exact hQ _ _ (fun b o e => F.keep b o (k b o e)) | contradiction | (exfalso; omega)
def VEq (v d : Value) : Prop := v = d ∨ ∃ k t t', v = .int k t ∧ d = .int k t'
def DueIs (h : Heap) (dv d0 d1 d2 d3 : Value) : Prop := ∃ du n, dv = .ref du ∧ h.get? du = some (tupObj [d0, d1, d2, d3] n)
/-- a point (b, i) of a body, and the due value that stands beside what lies there -/
def PtAt (h : Heap) (body pt : Addr) (b i : Int) (dv : Value) : Prop := ∃ bl bvs bk sl tv svs tb ti, BodyAt h body bl ∧ h.IsList bl (List.toArray bvs) ∧ bvs[b.toNat]? = some (.ref bk) ∧ h.IsList bk [.ref sl, tv].toArray ∧ h.IsList sl (List.toArray svs) ∧ IsTup h pt [.int b tb, .int i ti].toArray ∧
  0 ≤ b ∧ b < 1000 ∧ 0 ≤ i ∧ i < 1000 ∧ svs.length < 1000 ∧ ((i < svs.length ∧ ∃ sv, svs[i.toNat]? = some sv ∧ StmtAt h sv dv) ∨ (i = svs.length ∧ ∃ gs, TermAt h tv dv gs))
theorem due_inj {h : Heap} {du : Addr} {a b c e a' b' c' e' : Value} {n n' : Nat} (e1 : h.get? du = some (tupObj [a, b, c, e] n)) (e2 : h.get? du = some (tupObj [a', b', c', e'] n')) : a = a' ∧ b = b' ∧ c = c' ∧ e = e' := by
  rw [e1] at e2
  injection e2 with e2
  injection e2 with _ _ e2 _
  injection e2 with e2 _
  have := congrArg Array.toList e2
  simpa using this
theorem tup_of {h : Heap} {a : Addr} {vs : List Value} {n : Nat} (e : h.get? a = some (tupObj vs n)) : IsTup h a vs.toArray := ⟨_, e, rfl, _, rfl⟩
section
variable {w : World} {mean : ExcName → Option Value} {mg mb : Str → Option Value} {h₀ : Heap} {s : Shared} {dp un : Nat} {gd : Option (List Code)} {fr : Option (List Env)} {body pt : Addr} {b i : Int} {dv d0 d1 d2 d3 : Value} {Q E : Value → Shared → Prop}
theorem looked_ok (X : (Mine.hd.heap_1 w.params).In h₀) (T : Top Mine.vw (looseW Mine.vw []) mean mg mb h₀) (st0 : h₀.StaysIn s.heap) (hd : dp + 1 < recursionLimit) (hu : un + 100 < cLine) (P : PtAt s.heap body pt b i dv) (D : DueIs s.heap dv d0 d1 d2 d3)
    (hQ : ∀ v h' tk', VEq v d0 → s.heap.StaysIn h' → Q v { s with heap := h', toks := tk' }) : wpAny (model PySem.Challenge.pw_xm0585_01 w) (arnd dp un gd fr) (call (.ref 119) [.ref body, .ref pt]) Q E s := by
  refine hide (fun P9 toP9 => ?_)
  obtain ⟨bl, bvs, bk, sl, tv, svs, tb, ti, hB, hbl, hbk, hbk2, hsl, hp, b0, b1, i0, i1, z2, hc⟩ := P
  obtain ⟨du, n, rfl, hdu⟩ := D
  (refine toP9 ?_; clear toP9 P9)
  rcases hc with ⟨hi, sv, hs, hS⟩ | ⟨hi, gs, hT⟩
  · cases hS with
    | ref h1 h2 h3 =>
      refine hide (fun P9 toP9 => ?_)
      obtain ⟨rfl, rfl, rfl, rfl⟩ := due_inj h3 hdu
      (refine toP9 ?_; clear toP9 P9)
      exact looked_a X T st0 hd hu hB hbl hbk hbk2 hsl hp b0 b1 i0 i1 z2 hi hs (tup_of h1) (tup_of h2) fun h' tk' k => hQ _ h' tk' (.inl rfl) k
    | disc h1 h2 h3 =>
      refine hide (fun P9 toP9 => ?_)
      obtain ⟨rfl, rfl, rfl, rfl⟩ := due_inj h3 hdu
      (refine toP9 ?_; clear toP9 P9)
      exact looked_b X T st0 hd hu hB hbl hbk hbk2 hsl hp b0 b1 i0 i1 z2 hi hs (tup_of h1) (tup_of h2) fun h' tk' k => hQ _ h' tk' (.inl rfl) k
    | use h1 h2 x1 x2 h3 =>
      refine hide (fun P9 toP9 => ?_)
      obtain ⟨rfl, rfl, rfl, rfl⟩ := due_inj h3 hdu
      (refine toP9 ?_; clear toP9 P9)
      exact looked_c X T st0 hd hu hB hbl hbk hbk2 hsl hp b0 b1 i0 i1 z2 hi hs (tup_of h1) (tup_of h2) x1 x2 fun h' tk' k => hQ _ h' tk' (.inl rfl) k
    | other h1 x1 x2 x3 h3 =>
      refine hide (fun P9 toP9 => ?_)
      obtain ⟨rfl, rfl, rfl, rfl⟩ := due_inj h3 hdu
      (refine toP9 ?_; clear toP9 P9)
      exact looked_d X T st0 hd hu hB hbl hbk hbk2 hsl hp b0 b1 i0 i1 z2 hi hs (tup_of h1) x1 fun h' tk' k => hQ _ h' tk' (.inl rfl) k
    | room h1 x1 h3 =>
      refine hide (fun P9 toP9 => ?_)
      obtain ⟨rfl, rfl, rfl, rfl⟩ := due_inj h3 hdu
      (refine toP9 ?_; clear toP9 P9)
      exact looked_d X T st0 hd hu hB hbl hbk hbk2 hsl hp b0 b1 i0 i1 z2 hi hs (tup_of h1) (by rcases x1 with rfl | rfl <;> decide) fun h' tk' k => hQ _ h' tk' (.inl rfl) k
  · refine looked_e X T st0 hd hu hB hbl hbk hbk2 hsl hp b0 b1 i0 i1 z2 hi fun h' tk' k => hQ _ h' tk' (.inl ?_) k
    cases hT with
    | goto h1 h2 => exact (due_inj h2 hdu).1
    | switch2 h1 h2 => exact (due_inj h2 hdu).1
    | switch3 h1 h2 => exact (due_inj h2 hdu).1
    | call0 h1 h2 => exact (due_inj h2 hdu).1
    | call1 h1 h2 => exact (due_inj h2 hdu).1
    | drop h1 h2 => exact (due_inj h2 hdu).1
    | assert h1 h2 => exact (due_inj h2 hdu).1
    | other h1 x1 x2 x3 x4 x5 h2 => exact (due_inj h2 hdu).1
theorem written_ok (X : (Mine.hd.heap_1 w.params).In h₀) (T : Top Mine.vw (looseW Mine.vw []) mean mg mb h₀) (st0 : h₀.StaysIn s.heap) (hd : dp + 1 < recursionLimit) (hu : un + 100 < cLine) (P : PtAt s.heap body pt b i dv) (D : DueIs s.heap dv d0 d1 d2 d3)
    (hQ : ∀ v h' tk', VEq v d1 → s.heap.StaysIn h' → Q v { s with heap := h', toks := tk' }) : wpAny (model PySem.Challenge.pw_xm0585_01 w) (arnd dp un gd fr) (call (.ref 126) [.ref body, .ref pt]) Q E s := by
  refine hide (fun P9 toP9 => ?_)
  obtain ⟨bl, bvs, bk, sl, tv, svs, tb, ti, hB, hbl, hbk, hbk2, hsl, hp, b0, b1, i0, i1, z2, hc⟩ := P
  obtain ⟨du, n, rfl, hdu⟩ := D
  (refine toP9 ?_; clear toP9 P9)
  rcases hc with ⟨hi, sv, hs, hS⟩ | ⟨hi, gs, hT⟩
  · cases hS with
    | ref h1 h2 h3 =>
      refine hide (fun P9 toP9 => ?_)
      obtain ⟨rfl, rfl, rfl, rfl⟩ := due_inj h3 hdu
      (refine toP9 ?_; clear toP9 P9)
      exact written_a X T st0 hd hu hB hbl hbk hbk2 hsl hp b0 b1 i0 i1 z2 hi hs (tup_of h1) fun h' tk' k => hQ _ h' tk' (.inl rfl) k
    | disc h1 h2 h3 =>
      refine hide (fun P9 toP9 => ?_)
      obtain ⟨rfl, rfl, rfl, rfl⟩ := due_inj h3 hdu
      (refine toP9 ?_; clear toP9 P9)
      exact written_a X T st0 hd hu hB hbl hbk hbk2 hsl hp b0 b1 i0 i1 z2 hi hs (tup_of h1) fun h' tk' k => hQ _ h' tk' (.inl rfl) k
    | use h1 h2 x1 x2 h3 =>
      refine hide (fun P9 toP9 => ?_)
      obtain ⟨rfl, rfl, rfl, rfl⟩ := due_inj h3 hdu
      (refine toP9 ?_; clear toP9 P9)
      exact written_a X T st0 hd hu hB hbl hbk hbk2 hsl hp b0 b1 i0 i1 z2 hi hs (tup_of h1) fun h' tk' k => hQ _ h' tk' (.inl rfl) k
    | other h1 x1 x2 x3 h3 =>
      refine hide (fun P9 toP9 => ?_)
      obtain ⟨rfl, rfl, rfl, rfl⟩ := due_inj h3 hdu
      (refine toP9 ?_; clear toP9 P9)
      exact written_b X T st0 hd hu hB hbl hbk hbk2 hsl hp b0 b1 i0 i1 z2 hi hs (tup_of h1) x1 fun h' tk' k => hQ _ h' tk' (.inl rfl) k
    | room h1 x1 h3 =>
      refine hide (fun P9 toP9 => ?_)
      obtain ⟨rfl, rfl, rfl, rfl⟩ := due_inj h3 hdu
      (refine toP9 ?_; clear toP9 P9)
      exact written_b X T st0 hd hu hB hbl hbk hbk2 hsl hp b0 b1 i0 i1 z2 hi hs (tup_of h1) (by rcases x1 with rfl | rfl <;> decide) fun h' tk' k => hQ _ h' tk' (.inl rfl) k
  · have no : ∀ {tm : Addr} {t : Tok} {x : Str} {rest : List Value} {n : Nat}, tv = .ref tm → s.heap.get? tm = some (tupObj (.str x t :: rest) n) → x ≠ Str.ofString "call" → d1 = .none → wpAny (model PySem.Challenge.pw_xm0585_01 w) (arnd dp un gd fr) (call (.ref 126) [.ref body, .ref pt]) Q E s := fun e h1 x1 e1 => written_d X T st0 hd hu hB hbl hbk hbk2 hsl hp b0 b1 i0 i1 z2 hi e (tup_of h1) x1 fun h' tk' k => hQ _ h' tk' (.inl e1.symm) k
    cases hT with
    | goto h1 h2 => exact no rfl h1 (by decide) (due_inj hdu h2).2.1
    | switch2 h1 h2 => exact no rfl h1 (by decide) (due_inj hdu h2).2.1
    | switch3 h1 h2 => exact no rfl h1 (by decide) (due_inj hdu h2).2.1
    | call0 h1 h2 => exact written_c X T st0 hd hu hB hbl hbk hbk2 hsl hp b0 b1 i0 i1 z2 hi rfl (tup_of h1) fun h' tk' k => hQ _ h' tk' (.inl (due_inj h2 hdu).2.1) k
    | call1 h1 h2 => exact written_c X T st0 hd hu hB hbl hbk hbk2 hsl hp b0 b1 i0 i1 z2 hi rfl (tup_of h1) fun h' tk' k => hQ _ h' tk' (.inl (due_inj h2 hdu).2.1) k
    | drop h1 h2 => exact no rfl h1 (by decide) (due_inj hdu h2).2.1
    | assert h1 h2 => exact no rfl h1 (by decide) (due_inj hdu h2).2.1
    | other h1 x1 x2 x3 x4 x5 h2 => exact no rfl h1 x3 (due_inj hdu h2).2.1
theorem dropped_ok (X : (Mine.hd.heap_1 w.params).In h₀) (T : Top Mine.vw (looseW Mine.vw []) mean mg mb h₀) (st0 : h₀.StaysIn s.heap) (hd : dp + 1 < recursionLimit) (hu : un + 100 < cLine) (P : PtAt s.heap body pt b i dv) (D : DueIs s.heap dv d0 d1 d2 d3)
    (hQ : ∀ v h' tk', VEq v d2 → s.heap.StaysIn h' → Q v { s with heap := h', toks := tk' }) : wpAny (model PySem.Challenge.pw_xm0585_01 w) (arnd dp un gd fr) (call (.ref 133) [.ref body, .ref pt]) Q E s := by
  refine hide (fun P9 toP9 => ?_)
  obtain ⟨bl, bvs, bk, sl, tv, svs, tb, ti, hB, hbl, hbk, hbk2, hsl, hp, b0, b1, i0, i1, z2, hc⟩ := P
  obtain ⟨du, n, rfl, hdu⟩ := D
  (refine toP9 ?_; clear toP9 P9)
  rcases hc with ⟨hi, sv, hs, hS⟩ | ⟨hi, gs, hT⟩
  · refine dropped_a X T st0 hd hu hB hbl hbk hbk2 hsl hp b0 b1 i0 i1 z2 hi fun h' tk' k => hQ _ h' tk' (.inl ?_) k
    cases hS with
    | ref h1 h2 h3 => exact (due_inj h3 hdu).2.2.1
    | disc h1 h2 h3 => exact (due_inj h3 hdu).2.2.1
    | use h1 h2 x1 x2 h3 => exact (due_inj h3 hdu).2.2.1
    | other h1 x1 x2 x3 h3 => exact (due_inj h3 hdu).2.2.1
    | room h1 x1 h3 => exact (due_inj h3 hdu).2.2.1
  · have no : ∀ {tm : Addr} {t : Tok} {x : Str} {rest : List Value} {n : Nat}, tv = .ref tm → s.heap.get? tm = some (tupObj (.str x t :: rest) n) → x ≠ Str.ofString "drop" → d2 = .none → wpAny (model PySem.Challenge.pw_xm0585_01 w) (arnd dp un gd fr) (call (.ref 133) [.ref body, .ref pt]) Q E s := fun e h1 x1 e1 => dropped_c X T st0 hd hu hB hbl hbk hbk2 hsl hp b0 b1 i0 i1 z2 hi e (tup_of h1) x1 fun h' tk' k => hQ _ h' tk' (.inl e1.symm) k
    cases hT with
    | goto h1 h2 => exact no rfl h1 (by decide) (due_inj hdu h2).2.2.1
    | switch2 h1 h2 => exact no rfl h1 (by decide) (due_inj hdu h2).2.2.1
    | switch3 h1 h2 => exact no rfl h1 (by decide) (due_inj hdu h2).2.2.1
    | call0 h1 h2 => exact no rfl h1 (by decide) (due_inj hdu h2).2.2.1
    | call1 h1 h2 => exact no rfl h1 (by decide) (due_inj hdu h2).2.2.1
    | drop h1 h2 => exact dropped_b X T st0 hd hu hB hbl hbk hbk2 hsl hp b0 b1 i0 i1 z2 hi rfl (tup_of h1) fun h' tk' k => hQ _ h' tk' (.inl (due_inj h2 hdu).2.2.1) k
    | assert h1 h2 => exact no rfl h1 (by decide) (due_inj hdu h2).2.2.1
    | other h1 x1 x2 x3 x4 x5 h2 => exact no rfl h1 x4 (due_inj hdu h2).2.2.1
theorem turned_ok (X : (Mine.hd.heap_1 w.params).In h₀) (T : Top Mine.vw (looseW Mine.vw []) mean mg mb h₀) (st0 : h₀.StaysIn s.heap) (hd : dp + 1 < recursionLimit) (hu : un + 100 < cLine) (P : PtAt s.heap body pt b i dv) (D : DueIs s.heap dv d0 d1 d2 d3)
    (hQ : ∀ v h' tk', VEq v d3 → s.heap.StaysIn h' → Q v { s with heap := h', toks := tk' }) : wpAny (model PySem.Challenge.pw_xm0585_01 w) (arnd dp un gd fr) (call (.ref 140) [.ref body, .ref pt]) Q E s := by
  refine hide (fun P9 toP9 => ?_)
  obtain ⟨bl, bvs, bk, sl, tv, svs, tb, ti, hB, hbl, hbk, hbk2, hsl, hp, b0, b1, i0, i1, z2, hc⟩ := P
  obtain ⟨du, n, rfl, hdu⟩ := D
  (refine toP9 ?_; clear toP9 P9)
  rcases hc with ⟨hi, sv, hs, hS⟩ | ⟨hi, gs, hT⟩
  · have no : ∀ {st : Addr} {t : Tok} {x : Str} {rest : List Value} {n : Nat}, sv = .ref st → s.heap.get? st = some (tupObj (.str x t :: rest) n) → x ≠ sLive → x ≠ sDead → d3 = .none → wpAny (model PySem.Challenge.pw_xm0585_01 w) (arnd dp un gd fr) (call (.ref 140) [.ref body, .ref pt]) Q E s := fun e h1 x1 x2 e1 => turned_b X T st0 hd hu hB hbl hbk hbk2 hsl hp b0 b1 i0 i1 z2 hi (e ▸ hs) (tup_of h1) x1 x2 fun h' tk' k => hQ _ h' tk' (.inl e1.symm) k
    cases hS with
    | ref h1 h2 h3 => exact no rfl h1 (by decide) (by decide) (due_inj hdu h3).2.2.2
    | disc h1 h2 h3 => exact no rfl h1 (by decide) (by decide) (due_inj hdu h3).2.2.2
    | use h1 h2 x1 x2 h3 => exact no rfl h1 (by decide) (by decide) (due_inj hdu h3).2.2.2
    | other h1 x1 x2 x3 h3 => exact no rfl h1 x2 x3 (due_inj hdu h3).2.2.2
    | room h1 x1 h3 => exact turned_a X T st0 hd hu hB hbl hbk hbk2 hsl hp b0 b1 i0 i1 z2 hi hs (tup_of h1) x1 fun h' tk' k => hQ _ h' tk' (.inr ⟨_, _, _, rfl, (due_inj hdu h3).2.2.2⟩) k
  · refine turned_c X T st0 hd hu hB hbl hbk hbk2 hsl hp b0 b1 i0 i1 z2 hi fun h' tk' k => hQ _ h' tk' (.inl ?_) k
    cases hT with
    | goto h1 h2 => exact (due_inj h2 hdu).2.2.2
    | switch2 h1 h2 => exact (due_inj h2 hdu).2.2.2
    | switch3 h1 h2 => exact (due_inj h2 hdu).2.2.2
    | call0 h1 h2 => exact (due_inj h2 hdu).2.2.2
    | call1 h1 h2 => exact (due_inj h2 hdu).2.2.2
    | drop h1 h2 => exact (due_inj h2 hdu).2.2.2
    | assert h1 h2 => exact (due_inj h2 hdu).2.2.2
    | other h1 x1 x2 x3 x4 x5 h2 => exact (due_inj h2 hdu).2.2.2
end
/-- iterators bear fields; what this text keeps does not -/
def isFields (o : Obj) : Bool := match o.data with | .fields _ => true | _ => false
/-- what lies in h beside the frame's names and what a loop's iterator turns (it did not lie in H, it bears fields) lies in h' -/
def KeepOff (H : Heap) (L : Addr) (h h' : Heap) : Prop := ∀ b o, h.get? b = some o → b ≠ L → (isFields o = false ∨ H.get? b = some o) → h'.get? b = some o
def KeepIt (h h' : Heap) : Prop := ∀ b o, h.get? b = some o → isFields o = true → h'.get? b = some o
section
variable {g h : Heap} {L : Addr} {m : Str → Option Value} {ms : List (Addr × Obj)}
/-- all that lies in the heap, as a ledger: beside the base, the frame's names and what is written -/
theorem refresh (F : Fr g L h m) (N : News g L h ms) : ∃ D, News g L h D ∧ (∀ p ∈ D, p.1 ∉ ms.map Prod.fst) ∧ ∀ b o, h.get? b = some o → b ≠ L → b ∉ ms.map Prod.fst → g.get? b = some o ∨ (b, o) ∈ D := by
  classical
  refine ⟨(List.range h.objs.size).filterMap fun b => match h.get? b with | some o => if b = L ∨ b ∈ ms.map Prod.fst ∨ (g.get? b).isSome then none else some (b, o) | none => none, ?_, ?_, ?_⟩
  · intro p hp
    refine hide (fun P9 toP9 => ?_)
    obtain ⟨b, _, hb⟩ := List.mem_filterMap.mp hp
    (refine toP9 ?_; clear toP9 P9)
    cases e : h.get? b with
    | none => rw [e] at hb; cases hb
    | some o =>
      rw [e] at hb
      dsimp only at hb
      split at hb
      · cases hb
      · rename_i hc
        cases hb
        refine ⟨e, fun q => hc (.inl q), ?_⟩
        cases q : g.get? b with
        | none => rfl
        | some o' => exact absurd (.inr (.inr (by rw [q]; rfl))) hc
  · intro p hp
    refine hide (fun P9 toP9 => ?_)
    obtain ⟨b, _, hb⟩ := List.mem_filterMap.mp hp
    (refine toP9 ?_; clear toP9 P9)
    cases e : h.get? b with
    | none => rw [e] at hb; cases hb
    | some o =>
      rw [e] at hb
      dsimp only at hb
      split at hb
      · cases hb
      · rename_i hc
        cases hb
        exact fun q => hc (.inr (.inl q))
  · intro b o e hL hm
    cases q : g.get? b with
    | some o' => have := F.keep b o' q; rw [e] at this; cases this; exact .inl rfl
    | none =>
      refine .inr (List.mem_filterMap.mpr ⟨b, List.mem_range.mpr (Heap.lt_size e), ?_⟩)
      rw [e]
      dsimp only
      rw [if_neg (by simp [hL, q]; simpa using hm)]
theorem ns_fields (F : Fr g L h m) : ∀ o, h.get? L = some o → isFields o = false := fun o e => by
  refine hide (fun P9 toP9 => ?_)
  obtain ⟨o', es, ep, e', hd, _⟩ := F.ns
  (refine toP9 ?_; clear toP9 P9)
  rw [e] at e'; cases e'
  unfold isFields; rw [hd]
end
section
variable {prog : Program} {w : World} {A : Around} {s : Shared} {env : Env} {g H₀ : Heap}
def StepH (g : Heap) (L : Addr) (h : Heap) (s : Shared) (Jn : (Str → Option Value) → Heap → Prop) (s' : Shared) : Prop := ∃ h' tk' m', s' = { s with heap := h', toks := tk' } ∧ Fr g L h' m' ∧ KeepIt h h' ∧ Jn m' h'
def TurnH (g : Heap) (L : Addr) (h : Heap) (s : Shared) (Jn : (Str → Option Value) → Heap → Prop) (Q : Flow → Shared → Prop) (f : Flow) (s' : Shared) : Prop := match f with
  | .ret v => Q (.ret v) s'
  | .brk => Q .next s'
  | .next => StepH g L h s Jn s'
  | .cont => StepH g L h s Jn s'
theorem codeAny_forH {R : Result → Shared → Prop} {Q : Flow → Shared → Prop} {x : Str} {px : Pos} {body : List Stmt} {I : Addr} {fp wr : List Addr} {n : Nat} {P : Nat → Value → Prop} {St : Nat → Heap → Prop} {m : Str → Option Value}
    (W : Walks prog w A I fp wr n P St) (hx : env.kindOf x = some .local)
    (hp : (env.scope.kind == .class || (env.scope.kind == .module && env.locals != env.globals)) = false)
    (hLf : env.locals ∉ fp) (hwr : ∀ b ∈ wr, g.get? b = none) (hwH : ∀ b ∈ wr, H₀.get? b = none) (hfl : ∀ i h, St i h → ∀ b ∈ wr, ∀ o, h.get? b = some o → isFields o = true)
    (hfr : ∀ i h h', St i h → KeepIt h h' → (∀ b o, g.get? b = some o → h'.get? b = some o) → St i h')
    (hst : St 0 s.heap) (F : Fr g env.locals s.heap m) (J : Nat → (Str → Option Value) → Heap → Prop) (j0 : J 0 m s.heap)
    (stab : ∀ i m h h', Fr g env.locals h m → J i m h → KeepOff H₀ env.locals h h' → J i m h')
    (step : ∀ i v m₁ h tk, i < n → P i v → J i m₁ h → Fr g env.locals h (fun y => if y = x then some v else m₁ y) →
      wpAny (model prog w) A (execs body env) (TurnH g env.locals h s (J (i + 1)) Q) (notedBy (model prog w) A env fun e s' => R (.error e) s') { s with heap := h, toks := tk })
    (hR : ∀ f s', Q f s' → R (.ok f) s')
    (done : ∀ m' h' tk, J n m' h' → Fr g env.locals h' m' → Q .next { s with heap := h', toks := tk }) :
    codeAny (model prog w) A (.forLoop (.Name x px) (.ref I) body [] env) R s := by
  have hLw : env.locals ∉ wr := fun h => hLf (W.sub _ h)
  have old : ∀ b o, g.get? b = some o → b ∉ wr := fun b o e hb => by rw [hwr b hb] at e; cases e
  refine codeAny_forLoop
    (fun k s' => ∃ h' tk m' i, s' = { s with heap := h', toks := tk } ∧ St i h' ∧ Fr g env.locals h' m' ∧ J i m' h' ∧ i ≤ n ∧ k = n + 1 - i) ?_ (n + 1)
    ⟨s.heap, s.toks, m, 0, rfl, hst, F, j0, Nat.zero_le _, rfl⟩
  rintro k s' ⟨h', tk, m', i, rfl, hst', F', hJ, hi, rfl⟩
  have nextF : ∀ h₁ : Heap, (∀ b o, b ∉ wr → h'.get? b = some o → h₁.get? b = some o) → Fr g env.locals h₁ m' := fun h₁ hk₁ =>
    ⟨F'.ns.at' fun o e => hk₁ _ o hLw e, fun b o e => hk₁ b o (old b o e) (F'.keep b o e), F'.above⟩
  by_cases hlt : i < n
  · refine W.item i _ _ _ hlt hst' fun v h₁ tk₁ hP hst₁ hk₁ => ?_
    have F₁ := nextF h₁ hk₁
    refine wpAny_assign_Name (wpAny_storeName_local hx F₁.ns (fun h₂ hn₂ hs₂ => ?_) hp)
    have F₂ := F₁.set hn₂ hs₂
    have k₂ : KeepOff H₀ env.locals h' h₂ := fun b o e hb hf => (hs₂.2 b hb).trans (hk₁ b o (fun q => hf.elim (fun hf => by rw [hfl i h' hst' b q o e] at hf; cases hf) fun hf => by rw [hwH b q] at hf; cases hf) e)
    have hst₂ : St (i + 1) h₂ := W.frame _ _ _ hst₁ fun b hb o e => (hs₂.2 b fun q => hLf (q ▸ hb)).trans e
    refine wpAny_mono (step i v m' h₂ _ hlt hP (stab _ _ _ _ F' hJ k₂) F₂) (fun f s₃ h₃ => ?_) fun _ _ e => e
    have fin : StepH g env.locals h₂ s (J (i + 1)) s₃ → ∃ k', k' < n + 1 - i ∧ ∃ h' tk m' i, s₃ = { s with heap := h', toks := tk } ∧ St i h' ∧ Fr g env.locals h' m' ∧ J i m' h' ∧ i ≤ n ∧ k' = n + 1 - i := by
      rintro ⟨h₃', tk₃, m₃, rfl, F₃, kt, hJ₃⟩
      exact ⟨n + 1 - (i + 1), by omega, h₃', tk₃, m₃, i + 1, rfl, hfr _ _ _ hst₂ kt F₃.keep, F₃, hJ₃, hlt, rfl⟩
    cases f with
    | ret v => exact hR _ _ h₃
    | brk => exact hR _ _ h₃
    | cont => exact fin h₃
    | next => exact fin h₃
  · have hin : i = n := by omega
    subst hin
    refine W.done _ _ _ hst' fun h₁ tk₁ hk₁ => wpAny_execs_nil ?_
    exact hR _ _ (done m' h₁ tk₁ (stab _ _ _ _ F' hJ fun b o e hb hf => hk₁ b o (fun q => hf.elim (fun hf => by rw [hfl i h' hst' b q o e] at hf; cases hf) fun hf => by rw [hwH b q] at hf; cases hf) e) (nextF h₁ hk₁))
theorem codeAny_forPH {R : Result → Shared → Prop} {Q : Flow → Shared → Prop} {xi xc : Str} {pk pv pt : Pos} {x1 : Nat} {body : List Stmt} {I : Addr} {fp wr : List Addr} {n : Nat} {Pt : Nat → Array Value → Prop} {St : Nat → Heap → Prop} {Mid : Nat → Addr → Heap → Prop}
    {P2 : Nat → Value → Value → Prop} {m : Str → Option Value} (hh : A.handled = none) (W : WalksT prog w A I fp wr n Pt St Mid) (h2 : ∀ i vals, Pt i vals → ∃ v0 v1, vals = #[v0, v1] ∧ P2 i v0 v1)
    (hxi : env.kindOf xi = some .local) (hxc : env.kindOf xc = some .local)
    (hp : (env.scope.kind == .class || (env.scope.kind == .module && env.locals != env.globals)) = false)
    (hLf : env.locals ∉ fp) (hwr : ∀ b ∈ wr, g.get? b = none) (hwH : ∀ b ∈ wr, H₀.get? b = none) (hfl : ∀ i h, St i h → ∀ b ∈ wr, ∀ o, h.get? b = some o → isFields o = true)
    (hfr : ∀ i h h', St i h → KeepIt h h' → (∀ b o, g.get? b = some o → h'.get? b = some o) → St i h')
    (hst : St 0 s.heap) (F : Fr g env.locals s.heap m) (J : Nat → (Str → Option Value) → Heap → Prop) (j0 : J 0 m s.heap)
    (stab : ∀ i m h h', Fr g env.locals h m → J i m h → KeepOff H₀ env.locals h h' → J i m h')
    (step : ∀ i v0 v1 m₁ h tk, i < n → P2 i v0 v1 → J i m₁ h → Fr g env.locals h (fun y => if y = xc then some v1 else if y = xi then some v0 else m₁ y) →
      wpAny (model prog w) A (execs body env) (TurnH g env.locals h s (J (i + 1)) Q) (notedBy (model prog w) A env fun e s' => R (.error e) s') { s with heap := h, toks := tk })
    (hR : ∀ f s', Q f s' → R (.ok f) s')
    (done : ∀ m' h' tk, J n m' h' → Fr g env.locals h' m' → Q .next { s with heap := h', toks := tk }) :
    codeAny (model prog w) A (.forLoop (.Tuple [.Name xi pk, .Name xc pv] x1 pt) (.ref I) body [] env) R s := by
  have hLw : env.locals ∉ wr := fun h => hLf (W.sub _ h)
  have old : ∀ b o, g.get? b = some o → b ∉ wr := fun b o e hb => by rw [hwr b hb] at e; cases e
  refine codeAny_forLoop_any
    (fun k s' => ∃ h' tk m' i, s' = { s with heap := h', toks := tk } ∧ St i h' ∧ Fr g env.locals h' m' ∧ J i m' h' ∧ i ≤ n ∧ k = n + 1 - i) ?_ (n + 1)
    ⟨s.heap, s.toks, m, 0, rfl, hst, F, j0, Nat.zero_le _, rfl⟩
  rintro k s' ⟨H, tk, m', i, rfl, hst', F', hJ, hi, rfl⟩
  have nextF : ∀ h₁ : Heap, (∀ b o, b ∉ wr → H.get? b = some o → h₁.get? b = some o) → Fr g env.locals h₁ m' := fun h₁ hk₁ =>
    ⟨F'.ns.at' fun o e => hk₁ _ o hLw e, fun b o e => hk₁ b o (old b o e) (F'.keep b o e), F'.above⟩
  by_cases hlt : i < n
  · refine W.item i _ _ _ hlt hst' fun T vals h₁ tk₁ hPt _ hT hMid hk₁ => ?_
    refine hide (fun P9 toP9 => ?_)
    obtain ⟨v0, v1, rfl, hP2⟩ := h2 i vals hPt
    (refine toP9 ?_; clear toP9 P9)
    refine W.go _ x1 pt i T _ _ _ hMid fun h₂ hst₂ hk₂ => ?_
    have ht₂ : h₂.IsTuple T #[v0, v1] := hT.at fun o e => hk₂ T o (W.apart i T h₁ hMid) e
    refine wpAny_assign_Tuple hh ht₂ rfl rfl fun h₃ hx₃ => ?_
    replace hx₃ : Heap.ExtBut h₂.objs.size h₂ h₃ := hx₃
    have up₃ : ∀ b o, h₂.get? b = some o → h₃.get? b = some o := fun b o x => hx₃ b o (Nat.ne_of_lt (Heap.lt_size x)) x
    have k₃ : ∀ b o, b ∉ wr → H.get? b = some o → h₃.get? b = some o := fun b o hb x => up₃ b o (hk₂ b o hb (hk₁ b o hb x))
    have F₃ := nextF h₃ k₃
    show wpAny _ A (do holding [v1] (assign (.Name xi pk) env v0); do holding [] (assign (.Name xc pv) env v1); pure ()) _ _ _
    refine wpAny_bind (wpAny_holding (wpAny_assign_Name (wpAny_storeName_local hxi F₃.ns (fun h₄ hn₄ hs₄ => ?_) hp)))
    replace hs₄ : Heap.SameBut env.locals h₃ h₄ := hs₄
    have F₄ := F₃.set hn₄ hs₄
    refine wpAny_bind (wpAny_holding (wpAny_assign_Name (wpAny_storeName_local hxc F₄.ns (fun h₅ hn₅ hs₅ => wpAny_pure ?_) hp)))
    replace hs₅ : Heap.SameBut env.locals h₄ h₅ := hs₅
    have F₅ := F₄.set hn₅ hs₅
    have k₅ : KeepOff H₀ env.locals H h₅ := fun b o e hb hf => (hs₅.2 b hb).trans ((hs₄.2 b hb).trans (k₃ b o (fun q => hf.elim (fun hf => by rw [hfl i H hst' b q o e] at hf; cases hf) fun hf => by rw [hwH b q] at hf; cases hf) e))
    have hst₅ : St (i + 1) h₅ := W.frame _ _ _ hst₂ fun b hb o e => hs₅.extBut b o (fun q => hLf (q ▸ hb)) (hs₄.extBut b o (fun q => hLf (q ▸ hb)) (up₃ b o e))
    refine wpAny_mono (step i v0 v1 m' h₅ _ hlt hP2 (stab _ _ _ _ F' hJ k₅) F₅) (fun f s₃ h₆ => ?_) fun _ _ e => e
    have fin : StepH g env.locals h₅ s (J (i + 1)) s₃ → ∃ k', k' < n + 1 - i ∧ ∃ h' tk m' i, s₃ = { s with heap := h', toks := tk } ∧ St i h' ∧ Fr g env.locals h' m' ∧ J i m' h' ∧ i ≤ n ∧ k' = n + 1 - i := by
      rintro ⟨h₃', tk₃, m₃, rfl, F₃, kt, hJ₃⟩
      exact ⟨n + 1 - (i + 1), by omega, h₃', tk₃, m₃, i + 1, rfl, hfr _ _ _ hst₅ kt F₃.keep, F₃, hJ₃, hlt, rfl⟩
    cases f with
    | ret v => exact hR _ _ h₆
    | brk => exact hR _ _ h₆
    | cont => exact fin h₆
    | next => exact fin h₆
  · have hin : i = n := by omega
    subst hin
    refine W.done _ _ _ hst' fun h₁ tk₁ hk₁ => wpAny_execs_nil ?_
    exact hR _ _ (done m' h₁ tk₁ (stab _ _ _ _ F' hJ fun b o e hb hf => hk₁ b o (fun q => hf.elim (fun hf => by rw [hfl i H hst' b q o e] at hf; cases hf) fun hf => by rw [hwH b q] at hf; cases hf) e) (nextF h₁ hk₁))
end
section
variable {prog : Program} {w : World} {A : Around} {E : Value → Shared → Prop} {s : Shared} {env : Env} {g : Heap}
theorem fields_push {H h : Heap} {o : Obj} {L : Addr} : KeepOff H L h (h.push o) := fun _ _ e _ _ => Heap.get?_push_of_some _ e
theorem range_H {Q : Flow → Shared → Prop} {x : Str} {px : Pos} {body : List Stmt} {r : Addr} {a b c : Int} {t u v : Tok} {n : Nat} {m : Str → Option Value} (J : Nat → (Str → Option Value) → Heap → Prop)
    (hh : A.handled = none) (hr : IsRange s.heap r a b c t u v) (hsm : Builtin.Range.small a b c = true) (hn : Builtin.Range.rangeSize a b c = ((n : Nat) : Int))
    (hx : env.kindOf x = some .local) (hp : (env.scope.kind == .class || (env.scope.kind == .module && env.locals != env.globals)) = false)
    (F : Fr g env.locals s.heap m) (j0 : J 0 m s.heap) (stab : ∀ i m h h', Fr g env.locals h m → J i m h → KeepOff s.heap env.locals h h' → J i m h')
    (step : ∀ i t' m₁ h tk, i < n → J i m₁ h → Fr g env.locals h (fun y => if y = x then some (.int (a + (i : Int) * c) t') else m₁ y) →
      wpAny (model prog w) A (execs body env) (TurnH g env.locals h s (J (i + 1)) Q) E { s with heap := h, toks := tk })
    (done : ∀ m' h' tk, J n m' h' → Fr g env.locals h' m' → Q .next { s with heap := h', toks := tk })
    (hE : PassesOwn (model prog w) A env E := by passes_own) :
    wpAny (model prog w) A (pyIter (.ref r)) (fun it s₂ => codeAny (model prog w) A (.forLoop (.Name x px) it body [] env) (fun r s' => match r with | .ok f => Q f s' | .error e => cameBackBy (model prog w) A env E e s') s₂) E s := by
  refine wpAny_pyIter_range hr hsm ?_
  have hI : g.get? s.heap.objs.size = none := by
    cases q : g.get? s.heap.objs.size with
    | none => rfl
    | some o => exact absurd (Heap.lt_size (F.keep _ _ q)) (Nat.lt_irrefl _)
  refine codeAny_forH (R := fun r s' => match r with | .ok f => Q f s' | .error e => cameBackBy (model prog w) A env E e s') (H₀ := s.heap) (W := Walks.range hh s.heap.objs.size a c n) hx hp ?_ ?_ ?_ ?_ ?_ ?_ (F.push _) J (stab _ _ _ _ F j0 fields_push) stab
    (fun i v m₁ h tk hi hP hJ F₁ => ?_) (fun _ _ q => q) (fun m' h' tk hJ F' => done m' h' tk hJ F')
  · intro hm; exact absurd F.ns.lt (by rw [List.mem_singleton.mp hm]; exact Nat.lt_irrefl _)
  · intro b hb; rw [List.mem_singleton.mp hb]; exact hI
  · intro b hb; rw [List.mem_singleton.mp hb]; exact Heap.get?_none_of_le (Nat.le_refl _)
  · intro i h st b hb o e
    rw [List.mem_singleton.mp hb] at e
    have st' : h.get? s.heap.objs.size = some _ := st
    rw [e] at st'; cases st'; rfl
  · intro i h h' st kt _
    have st' : h.get? s.heap.objs.size = some _ := st
    exact kt _ _ st' rfl
  · show IsRangeIter _ _ _ _ _
    rw [hn]; simpa using Heap.get?_push_size s.heap (o := { cls := .type "range_iterator", data := .fields #[rawInt a, rawInt n, rawInt c] }) rfl
  · obtain ⟨t', rfl⟩ := hP
    exact wpAny_passesOwn hE (step i t' m₁ h tk hi hJ F₁)
/-- an enumerate over a list of the base, as it was made -/
def EnumFor (g : Heap) (L : Addr) (H h : Heap) (e : Addr) (vs : List Value) : Prop := ∃ it l, IsEnum h e it 0 .none ∧ h.IsListIter it l 0 ∧ g.IsList l vs.toArray ∧ e ≠ it ∧ e ≠ l ∧ it ≠ l ∧ e ≠ L ∧ it ≠ L ∧ l ≠ L ∧ g.get? e = none ∧ g.get? it = none ∧ H.get? e = none ∧ H.get? it = none
theorem enum_call {L l : Addr} {vs : List Value} {m : Str → Option Value} {news : List (Addr × Obj)} {Q : Value → Shared → Prop} (F : Fr g L s.heap m) (N : News g L s.heap news) (hl : g.IsList l vs.toArray)
    (h : ∀ h' e, Fr g L h' m → News g L h' news → EnumFor g L s.heap h' e vs → Q (.ref e) { s with heap := h' }) : wpAny (model prog w) A (call (.type "enumerate") [.ref l]) Q E s := by
  have hls := F.lst hl
  refine hide (fun P9 toP9 => ?_)
  obtain ⟨ol, hol, _⟩ := id hl
  (refine toP9 ?_; clear toP9 P9)
  have hlt : l < s.heap.objs.size := Heap.lt_size (F.keep _ _ hol)
  have hLs : L < s.heap.objs.size := F.ns.lt
  have hfree : ∀ a, s.heap.objs.size ≤ a → g.get? a = none := fun a ha => by
    cases q : g.get? a with
    | none => rfl
    | some o => exact absurd (Heap.lt_size (F.keep _ _ q)) (Nat.not_lt.mpr ha)
  refine call_enumerate_list hls fun h' he hit hsz hk => ?_
  refine h h' _ ⟨F.ns.keeps hk, fun b o e => hk b o (F.keep b o e), F.above⟩ (fun p hp => ⟨hk _ _ (N p hp).1, (N p hp).2⟩) ⟨s.heap.objs.size, l, he, hit, hl, Nat.succ_ne_self _, Nat.ne_of_gt (Nat.lt_succ_of_lt hlt), Nat.ne_of_gt hlt, Nat.ne_of_gt (Nat.lt_succ_of_lt hLs), Nat.ne_of_gt hLs, ?_, hfree _ (Nat.le_succ _), hfree _ (Nat.le_refl _), Heap.get?_none_of_le (Nat.le_succ _), Heap.get?_none_of_le (Nat.le_refl _)⟩
  exact fun q => absurd (Heap.lt_size hol) (Nat.not_lt.mpr (q ▸ F.above))
theorem enum_H {H₀ : Heap} {Q : Flow → Shared → Prop} {xi xc : Str} {pk pv pt : Pos} {x1 : Nat} {body : List Stmt} {e : Addr} {vs : List Value} {m : Str → Option Value} (J : Nat → (Str → Option Value) → Heap → Prop)
    (hh : A.handled = none) (he : EnumFor g env.locals H₀ s.heap e vs)
    (hxi : env.kindOf xi = some .local) (hxc : env.kindOf xc = some .local) (hp : (env.scope.kind == .class || (env.scope.kind == .module && env.locals != env.globals)) = false)
    (F : Fr g env.locals s.heap m) (j0 : J 0 m s.heap) (stab : ∀ i m h h', Fr g env.locals h m → J i m h → KeepOff H₀ env.locals h h' → J i m h')
    (step : ∀ (i : Nat) t' v m₁ h tk, vs[i]? = some v → J i m₁ h → Fr g env.locals h (fun y => if y = xc then some v else if y = xi then some (.int (i : Int) t') else m₁ y) →
      wpAny (model prog w) A (execs body env) (TurnH g env.locals h s (J (i + 1)) Q) E { s with heap := h, toks := tk })
    (done : ∀ m' h' tk, J vs.length m' h' → Fr g env.locals h' m' → Q .next { s with heap := h', toks := tk })
    (hE : PassesOwn (model prog w) A env E := by passes_own) :
    wpAny (model prog w) A (pyIter (.ref e)) (fun it s₂ => codeAny (model prog w) A (.forLoop (.Tuple [.Name xi pk, .Name xc pv] x1 pt) it body [] env) (fun r s' => match r with | .ok f => Q f s' | .error e => cameBackBy (model prog w) A env E e s') s₂) E s := by
  refine hide (fun P9 toP9 => ?_)
  obtain ⟨it, l, he, hit, hl, n1, n2, n3, n4, n5, n6, g1, g2, H1, H2⟩ := he
  (refine toP9 ?_; clear toP9 P9)
  refine wpAny_pyIter_enum he ?_
  have hif : it ∈ [it, l] := by simp
  refine codeAny_forPH (R := fun r s' => match r with | .ok f => Q f s' | .error e => cameBackBy (model prog w) A env E e s') (H₀ := H₀) (P2 := fun i v0 v1 => ∃ t, v0 = .int i t ∧ vs[i]? = some v1) hh
    (WalksT.enumerateD (Draws.list (A := A.in1) hh it l (Ne.symm n3) vs.toArray) e n1 (by simp [n1, n2]) hif) ?_ hxi hxc hp (by simp [Ne.symm n4, Ne.symm n5, Ne.symm n6]) ?_ ?_ ?_ ?_
    ⟨⟨_, by simpa using he⟩, hit, F.lst hl⟩ F J j0 stab (fun i v0 v1 m₁ h tk hi hP hJ F₁ => ?_) (fun _ _ q => q) (fun m' h' tk hJ F' => done m' h' tk (by simpa using hJ) F')
  · rintro i vals ⟨t, x, hx, rfl⟩
    exact ⟨_, _, rfl, t, rfl, by simpa using hx⟩
  · intro b hb
    rcases List.mem_cons.mp hb with rfl | hb
    · exact g1
    · rw [List.mem_singleton.mp hb]; exact g2
  · intro b hb
    rcases List.mem_cons.mp hb with rfl | hb
    · exact H1
    · rw [List.mem_singleton.mp hb]; exact H2
  · rintro i h ⟨⟨old, st1⟩, ⟨o2, ho2, _, hd2⟩, _⟩ b hb o e'
    rcases List.mem_cons.mp hb with rfl | hb
    · have st1' : h.get? b = some _ := st1
      rw [e'] at st1'; cases st1'; rfl
    · rw [List.mem_singleton.mp hb, ho2] at e'
      cases e'
      unfold isFields; rw [hd2]
  · rintro i h h' ⟨⟨old, st1⟩, ⟨o2, ho2, hc2, hd2⟩, st3⟩ kt kg
    have st1' : h.get? e = some _ := st1
    exact ⟨⟨old, kt _ _ st1' rfl⟩, ⟨o2, kt _ _ ho2 (by unfold isFields; rw [hd2]), hc2, hd2⟩, hl.at fun o e => kg _ _ e⟩
  · obtain ⟨t', rfl, hx⟩ := hP
    exact wpAny_passesOwn hE (step i t' v1 m₁ h tk hx hJ F₁)
end
/-- two maps of names agree beside the names of a list -/
def AgreeOff (l : List Str) (m₀ m : Str → Option Value) : Prop := ∀ y, y ∉ l → m y = m₀ y
def pick : List Str → (Str → Option Value) → (Str → Option Value) → Str → Option Value
  | [], _, m₀, y => m₀ y
  | n :: l, m, m₀, y => if y = n then m n else pick l m m₀ y
theorem AgreeOff.form {m₀ m : Str → Option Value} : ∀ {l : List Str}, AgreeOff l m₀ m → m = pick l m m₀
  | [], h => funext fun y => h y (fun q => nomatch q)
  | n :: l, h => by
    funext y
    unfold pick
    by_cases e : y = n
    · rw [if_pos e, e]
    · rw [if_neg e]
      have key : ∀ l : List Str, (y ∈ l ∨ m y = m₀ y) → m y = pick l m m₀ y := by
        intro l
        induction l with
        | nil => exact fun h => h.elim (fun q => nomatch q) id
        | cons a r ih =>
          intro h
          unfold pick
          by_cases ea : y = a
          · rw [if_pos ea, ea]
          · rw [if_neg ea]
            exact ih (h.imp_left fun q => (List.mem_cons.mp q).resolve_left ea)
      by_cases hy : y ∈ l
      · exact key l (.inl hy)
      · exact key l (.inr (h y (by simp [e, hy])))
theorem AgreeOff.refl {l : List Str} {m : Str → Option Value} : AgreeOff l m m := fun _ _ => rfl
theorem keepIt_of {g h h' : Heap} {L : Addr} {m m' : Str → Option Value} {ms D news : List (Addr × Obj)} (F : Fr g L h m) (hms : ∀ p ∈ ms, isFields p.2 = false) (Nm : News g L h ms)
    (hD : ∀ b o, h.get? b = some o → b ≠ L → b ∉ ms.map Prod.fst → g.get? b = some o ∨ (b, o) ∈ D) (F' : Fr g L h' m') (N' : News g L h' news) (hs : ∀ p ∈ D, p ∈ news) : KeepIt h h' := by
  intro b o e hf
  have h1 : b ≠ L := fun q => by rw [ns_fields F o (q ▸ e)] at hf; cases hf
  have h2 : b ∉ ms.map Prod.fst := fun q => by
    obtain ⟨p, hp, rfl⟩ := List.mem_map.mp q
    have := (Nm p hp).1
    rw [e] at this; cases this
    rw [hms p hp] at hf; cases hf
  rcases hD b o e h1 h2 with q | q
  · exact F'.keep _ _ q
  · exact (N' _ (hs _ q)).1
theorem KeepIt.trans {a b c : Heap} (x : KeepIt a b) (y : KeepIt b c) : KeepIt a c := fun p o e f => y p o (x p o e f) f
theorem KeepIt.stab {H h a b : Heap} {L : Addr} (x : KeepIt h a) (y : KeepIt h H) (hL : ∀ o, h.get? L = some o → isFields o = false) (k : KeepOff H L a b) : KeepIt h b := fun p o e f => k p o (x p o e f) (fun q => by rw [hL o (q ▸ e)] at f; cases f) (.inr (y p o e f))
theorem VEq.at {A : Around} {s : Shared} {v d : Value} (h : VEq v d) : SeqAt.EqAt A s v d true := by
  rcases h with rfl | ⟨k, t, t', rfl, rfl⟩
  · exact SeqAt.EqAt.same _
  · have := SeqAt.EqAt.int_int (A := A) (s := s) k t k t'
    rwa [beq_self_eq_true] at this
section
variable {prog : Program} {w : World} {A : Around} {E : Value → Shared → Prop} {s : Shared}
theorem ne_told {a du : Addr} {v0 v1 v2 v3 d0 d1 d2 d3 : Value} {Q : Value → Shared → Prop} (ha : IsTup s.heap a [v0, v1, v2, v3].toArray) (hb : IsTup s.heap du [d0, d1, d2, d3].toArray) (e0 : VEq v0 d0) (e1 : VEq v1 d1) (e2 : VEq v2 d2) (e3 : VEq v3 d3)
    (hu : A.units < cLine) (h : Q (.bool false) s) : wpAny (model prog w) A (compareOp .NotEq (.ref a) (.ref du)) Q E s := by
  refine SeqAt.RcNeAt.tuples (e := fun _ => true) ha hb hu (fun j h1 h2 => ?_) prog w E Q ?_
  · match j, h1, h2 with
    | 0, _, _ => exact e0.at
    | 1, _, _ => exact e1.at
    | 2, _, _ => exact e2.at
    | 3, _, _ => exact e3.at
    | (n + 4), h1, _ => exact absurd h1 (by simp)
  · exact h
end
/-- one block as it was built: its value, its row of due values, its goals -/
def BlkAt (h : Heap) (many : Int) (bv rv gv : Value) : Prop := ∃ bk sl tv svs rw dvs dend gl gs gvs, bv = .ref bk ∧ h.IsList bk [.ref sl, tv].toArray ∧ h.IsList sl (List.toArray svs) ∧ rv = .ref rw ∧ h.IsList rw (List.toArray (dvs ++ [dend])) ∧ svs.length = dvs.length ∧ svs.length ≤ 3 ∧
  (∀ (i : Nat) sv dv, svs[i]? = some sv → dvs[i]? = some dv → StmtAt h sv dv) ∧ TermAt h tv dend gs ∧ gv = .ref gl ∧ h.IsList gl (List.toArray gvs) ∧ IntsAre gvs gs ∧ ∀ g ∈ gs, 0 ≤ g ∧ g < many
theorem BlkAt.mono {h h' : Heap} (k : ∀ b o, h.get? b = some o → h'.get? b = some o) {many : Int} {bv rv gv : Value} (x : BlkAt h many bv rv gv) : BlkAt h' many bv rv gv := by
  refine hide (fun P9 toP9 => ?_)
  obtain ⟨bk, sl, tv, svs, rw, dvs, dend, gl, gs, gvs, e1, l1, l2, e2, l3, e3, e4, hs, ht, e5, l4, e6, e7⟩ := x
  (refine toP9 ?_; clear toP9 P9)
  exact ⟨bk, sl, tv, svs, rw, dvs, dend, gl, gs, gvs, e1, l1.at (k _), l2.at (k _), e2, l3.at (k _), e3, e4, fun i sv dv a b => (hs i sv dv a b).mono k, ht.mono k, e5, l4.at (k _), e6, e7⟩
def BlksAt (h : Heap) (many : Int) (bvs rvs gvs : List Value) : Prop := bvs.length = rvs.length ∧ gvs.length = rvs.length ∧ rvs.length ≤ 4 ∧ ∀ (i : Nat) rv, rvs[i]? = some rv → ∃ bv gv, bvs[i]? = some bv ∧ gvs[i]? = some gv ∧ BlkAt h many bv rv gv
theorem BlksAt.mono {h h' : Heap} (k : ∀ b o, h.get? b = some o → h'.get? b = some o) {many : Int} {bvs rvs gvs : List Value} (x : BlksAt h many bvs rvs gvs) : BlksAt h' many bvs rvs gvs :=
  ⟨x.1, x.2.1, x.2.2.1, fun i rv e => let ⟨bv, gv, a, b, c⟩ := x.2.2.2 i rv e; ⟨bv, gv, a, b, c.mono k⟩⟩
theorem BodyAt.mono {h h' : Heap} (k : ∀ b o, h.get? b = some o → h'.get? b = some o) {body bl : Addr} (x : BodyAt h body bl) : BodyAt h' body bl := by
  refine hide (fun P9 toP9 => ?_)
  obtain ⟨dx, k1, k2, k3, k4, k5, t1, t2, t3, t4, t5, v1, v2, v3, v5, n, a, b⟩ := x
  (refine toP9 ?_; clear toP9 P9)
  exact ⟨dx, k1, k2, k3, k4, k5, t1, t2, t3, t4, t5, v1, v2, v3, v5, n, k _ _ a, k _ _ b⟩
/-- a point of a body, without the tuple that names it -/
def PtB (h : Heap) (body : Addr) (b i : Int) (dv : Value) : Prop := ∃ bl bvs bk sl tv svs, BodyAt h body bl ∧ h.IsList bl (List.toArray bvs) ∧ bvs[b.toNat]? = some (.ref bk) ∧ h.IsList bk [.ref sl, tv].toArray ∧ h.IsList sl (List.toArray svs) ∧
  0 ≤ b ∧ b < 1000 ∧ 0 ≤ i ∧ i < 1000 ∧ svs.length < 1000 ∧ ((i < svs.length ∧ ∃ sv, svs[i.toNat]? = some sv ∧ StmtAt h sv dv) ∨ (i = svs.length ∧ ∃ gs, TermAt h tv dv gs))
theorem PtB.pt {h : Heap} {body pt : Addr} {b i : Int} {dv : Value} {tb ti : Tok} (x : PtB h body b i dv) (e : IsTup h pt [.int b tb, .int i ti].toArray) : PtAt h body pt b i dv := by
  refine hide (fun P9 toP9 => ?_)
  obtain ⟨bl, bvs, bk, sl, tv, svs, a1, a2, a3, a4, a5, r⟩ := x
  (refine toP9 ?_; clear toP9 P9)
  exact ⟨bl, bvs, bk, sl, tv, svs, tb, ti, a1, a2, a3, a4, a5, e, r⟩
theorem PtB.mono {h h' : Heap} (k : ∀ b o, h.get? b = some o → h'.get? b = some o) {body : Addr} {b i : Int} {dv : Value} (x : PtB h body b i dv) : PtB h' body b i dv := by
  refine hide (fun P9 toP9 => ?_)
  obtain ⟨bl, bvs, bk, sl, tv, svs, a1, a2, a3, a4, a5, a6, a7, a8, a9, a10, a11⟩ := x
  (refine toP9 ?_; clear toP9 P9)
  refine ⟨bl, bvs, bk, sl, tv, svs, a1.mono k, a2.at (k _), a3, a4.at (k _), a5.at (k _), a6, a7, a8, a9, a10, a11.imp (fun ⟨x, sv, y, z⟩ => ⟨x, sv, y, z.mono k⟩) fun ⟨x, gs, z⟩ => ⟨x, gs, z.mono k⟩⟩
theorem DueIs.mono {h h' : Heap} (k : ∀ b o, h.get? b = some o → h'.get? b = some o) {dv d0 d1 d2 d3 : Value} (x : DueIs h dv d0 d1 d2 d3) : DueIs h' dv d0 d1 d2 d3 := let ⟨du, n, a, b⟩ := x; ⟨du, n, a, k _ _ b⟩
theorem StmtAt.due {h : Heap} {sv dv : Value} (x : StmtAt h sv dv) : ∃ d0 d1 d2 d3, DueIs h dv d0 d1 d2 d3 := by
  cases x with
  | ref h1 h2 h3 => exact ⟨_, _, _, _, _, _, rfl, h3⟩
  | disc h1 h2 h3 => exact ⟨_, _, _, _, _, _, rfl, h3⟩
  | use h1 h2 x1 x2 h3 => exact ⟨_, _, _, _, _, _, rfl, h3⟩
  | other h1 x1 x2 x3 h3 => exact ⟨_, _, _, _, _, _, rfl, h3⟩
  | room h1 x1 h3 => exact ⟨_, _, _, _, _, _, rfl, h3⟩
theorem TermAt.due {h : Heap} {tv dv : Value} {gs : List Int} (x : TermAt h tv dv gs) : ∃ d0 d1 d2 d3, DueIs h dv d0 d1 d2 d3 := by
  cases x with
  | goto h1 h2 => exact ⟨_, _, _, _, _, _, rfl, h2⟩
  | switch2 h1 h2 => exact ⟨_, _, _, _, _, _, rfl, h2⟩
  | switch3 h1 h2 => exact ⟨_, _, _, _, _, _, rfl, h2⟩
  | call0 h1 h2 => exact ⟨_, _, _, _, _, _, rfl, h2⟩
  | call1 h1 h2 => exact ⟨_, _, _, _, _, _, rfl, h2⟩
  | drop h1 h2 => exact ⟨_, _, _, _, _, _, rfl, h2⟩
  | assert h1 h2 => exact ⟨_, _, _, _, _, _, rfl, h2⟩
  | other h1 x1 x2 x3 x4 x5 h2 => exact ⟨_, _, _, _, _, _, rfl, h2⟩
theorem stays_back {g : Heap} {L : Addr} {s : Shared} {m : Str → Option Value} {news : List (Addr × Obj)} {h' : Heap} (F : Fr g L s.heap m) (N : News g L s.heap news) (k : s.heap.StaysIn h') : Fr g L h' m ∧ News g L h' news :=
  ⟨⟨F.ns.at' fun o e => k _ _ e, fun b o e => k _ _ (F.keep b o e), F.above⟩, fun p hp => ⟨k _ _ (N p hp).1, (N p hp).2⟩⟩
section
variable {w : World} {mean : ExcName → Option Value} {mg mb : Str → Option Value} {g : Heap} {L : Addr} {m : Str → Option Value} {news : List (Addr × Obj)} {s : Shared} {dp un : Nat} {gd : Option (List Code)} {fr : Option (List Env)} {body pt : Addr} {b i : Int} {tb ti : Tok} {dv d0 d1 d2 d3 : Value} {Q E : Value → Shared → Prop}
theorem looked_use (F : Fr g L s.heap m) (X : (Mine.hd.heap_1 w.params).In g) (T : Top Mine.vw (looseW Mine.vw []) mean mg mb g) (N : News g L s.heap news) (hm : IsTup s.heap pt [.int b tb, .int i ti].toArray) (P : PtB g body b i dv) (D : DueIs g dv d0 d1 d2 d3) (hd : dp + 1 < recursionLimit) (hu : un + 100 < cLine)
    (ret : ∀ v h' tk', VEq v d0 → Fr g L h' m → News g L h' news → Q v { s with heap := h', toks := tk' }) : wpAny (model PySem.Challenge.pw_xm0585_01 w) (arnd dp un gd fr) (call (.ref 119) [.ref body, .ref pt]) Q E s :=
  looked_ok X T F.keep hd hu ((P.mono F.keep).pt hm) (D.mono F.keep) fun v h' tk' e k => let ⟨F', N'⟩ := stays_back F N k; ret v h' tk' e F' N'
theorem written_use (F : Fr g L s.heap m) (X : (Mine.hd.heap_1 w.params).In g) (T : Top Mine.vw (looseW Mine.vw []) mean mg mb g) (N : News g L s.heap news) (hm : IsTup s.heap pt [.int b tb, .int i ti].toArray) (P : PtB g body b i dv) (D : DueIs g dv d0 d1 d2 d3) (hd : dp + 1 < recursionLimit) (hu : un + 100 < cLine)
    (ret : ∀ v h' tk', VEq v d1 → Fr g L h' m → News g L h' news → Q v { s with heap := h', toks := tk' }) : wpAny (model PySem.Challenge.pw_xm0585_01 w) (arnd dp un gd fr) (call (.ref 126) [.ref body, .ref pt]) Q E s :=
  written_ok X T F.keep hd hu ((P.mono F.keep).pt hm) (D.mono F.keep) fun v h' tk' e k => let ⟨F', N'⟩ := stays_back F N k; ret v h' tk' e F' N'
theorem dropped_use (F : Fr g L s.heap m) (X : (Mine.hd.heap_1 w.params).In g) (T : Top Mine.vw (looseW Mine.vw []) mean mg mb g) (N : News g L s.heap news) (hm : IsTup s.heap pt [.int b tb, .int i ti].toArray) (P : PtB g body b i dv) (D : DueIs g dv d0 d1 d2 d3) (hd : dp + 1 < recursionLimit) (hu : un + 100 < cLine)
    (ret : ∀ v h' tk', VEq v d2 → Fr g L h' m → News g L h' news → Q v { s with heap := h', toks := tk' }) : wpAny (model PySem.Challenge.pw_xm0585_01 w) (arnd dp un gd fr) (call (.ref 133) [.ref body, .ref pt]) Q E s :=
  dropped_ok X T F.keep hd hu ((P.mono F.keep).pt hm) (D.mono F.keep) fun v h' tk' e k => let ⟨F', N'⟩ := stays_back F N k; ret v h' tk' e F' N'
theorem turned_use (F : Fr g L s.heap m) (X : (Mine.hd.heap_1 w.params).In g) (T : Top Mine.vw (looseW Mine.vw []) mean mg mb g) (N : News g L s.heap news) (hm : IsTup s.heap pt [.int b tb, .int i ti].toArray) (P : PtB g body b i dv) (D : DueIs g dv d0 d1 d2 d3) (hd : dp + 1 < recursionLimit) (hu : un + 100 < cLine)
    (ret : ∀ v h' tk', VEq v d3 → Fr g L h' m → News g L h' news → Q v { s with heap := h', toks := tk' }) : wpAny (model PySem.Challenge.pw_xm0585_01 w) (arnd dp un gd fr) (call (.ref 140) [.ref body, .ref pt]) Q E s :=
  turned_ok X T F.keep hd hu ((P.mono F.keep).pt hm) (D.mono F.keep) fun v h' tk' e k => let ⟨F', N'⟩ := stays_back F N k; ret v h' tk' e F' N'
end
set_option maxRecDepth 100000 in
set_option maxHeartbeats 4000000 in
theorem told_ok {w : World} {mean : ExcName → Option Value} {mg mb : Str → Option Value} {h₀ : Heap} {s : Shared} {dp un : Nat} {gd : Option (List Code)} {fr : Option (List Env)} {body bl rl : Addr} {many : Int} {bvs rvs gvs : List Value} {Q E : Value → Shared → Prop}
    (X : (Mine.hd.heap_1 w.params).In h₀) (T : Top Mine.vw (looseW Mine.vw []) mean mg mb h₀) (st0 : h₀.StaysIn s.heap)
    (hd : dp + 2 < recursionLimit) (hu : un + 110 < cLine)
    (hB : BodyAt s.heap body bl) (hbl : s.heap.IsList bl bvs.toArray) (hrl : s.heap.IsList rl rvs.toArray) (hK : BlksAt s.heap many bvs rvs gvs)
    (hQ : ∀ h' tk', s.heap.StaysIn h' → Q (.bool true) { s with heap := h', toks := tk' }) :
    wpAny (model PySem.Challenge.pw_xm0585_01 w) (arnd dp un gd fr) (call (.ref 213) [.ref body, .ref rl]) Q E s := by
  refine' enter (news := []) X T st0 (fun _ h => nomatch h) (fun _ h => nomatch h) ?ho ?hcd ?hroom ?hbind ?hloc ?_ ?c2 ?c3 ?c4 ?c5
  ((case ho => k_dflt k_is); (case hcd => k_dflt k_is); (case hroom => ktr_room); (case hbind => exact BindsTo.of_eq rfl); (case c2 => decide); (case c3 => exact rfl); (case c4 => exact rfl); (case c5 => exact rfl); (case hloc => exact locs rfl))
  intro g L' h₁' st1 st2 keep F' N' X' T' nL l1 d' u' fr' hd' hu'
  change Fr _ _ _ (fun y => List.lookup y [(_, _), (_, _)]) at F'
  have k : ∀ b o, s.heap.get? b = some o → g.get? b = some o := fun b o e => keep b o e (fun h => nomatch h)
  replace hB := hB.mono k; replace hbl := hbl.at (k bl); replace hrl := hrl.at (k rl); replace hK := hK.mono k
  clear l1
  (try dsimp only)
  (repeat' ((fail_if_success (with_reducible refine stop_at (by first | exact .loop | exact .iter | exact .comp | exact .item) ?_)); first | (k_unfold; (try dsimp only)) | (k_end; wrow_close) | ((first | ((with_reducible show wpAny _ _ (call (Value.type _) [Value.ref _]) _ _ _); refine enum_call (by k_asm) (by k_asm) (by assumption) ?_; k_whole; intro hzz9 ezz9 Fzz9 Nzz9 hezz9; (try k_sweep)) | ((with_reducible show wpAny _ _ (compareOp CmpOp.NotEq (Value.ref _) (Value.ref _)) _ _ _); refine ne_told (News.isTup (by k_asm) (by k_mem)) (Fr.tup (by k_asm) (by assumption)) (by assumption) (by assumption) (by assumption) (by assumption) (by ktr_room) ?_; k_whole) | ((with_reducible show wpAny _ _ (call (Value.ref _) [Value.ref _, Value.ref _]) _ _ _); (first | ((with_reducible show wpAny _ _ (call (Value.ref 119) _) _ _ _); refine looked_use (by k_asm) (by k_asm) (by k_asm) (by k_asm) (News.isTup (by k_asm) (by k_mem)) (by assumption) (by assumption) (by ktr_room) (by ktr_room) ?_) | ((with_reducible show wpAny _ _ (call (Value.ref 126) _) _ _ _); refine written_use (by k_asm) (by k_asm) (by k_asm) (by k_asm) (News.isTup (by k_asm) (by k_mem)) (by assumption) (by assumption) (by ktr_room) (by ktr_room) ?_) | ((with_reducible show wpAny _ _ (call (Value.ref 133) _) _ _ _); refine dropped_use (by k_asm) (by k_asm) (by k_asm) (by k_asm) (News.isTup (by k_asm) (by k_mem)) (by assumption) (by assumption) (by ktr_room) (by ktr_room) ?_) | ((with_reducible show wpAny _ _ (call (Value.ref 140) _) _ _ _); refine turned_use (by k_asm) (by k_asm) (by k_asm) (by k_asm) (News.isTup (by k_asm) (by k_mem)) (by assumption) (by assumption) (by ktr_room) (by ktr_room) ?_)); k_whole; intro vzz9 hzz9 tkzz9 hvzz9 Fzz9 Nzz9; (try k_sweep)) | ((with_reducible show wpAny _ _ (spliced _) _ _ _); refine' args_plain ?qSS ?qFF ?qkk ?qPP ?_; (case qSS => rfl); (case qFF => k_asm); (case qkk => rfl); (case qPP => repeat' first | exact Plain.nil | (apply Plain.name; exact rfl; exact rfl; decide) | apply Plain.none | apply Plain.bool | apply Plain.int | apply Plain.str); k_whole; (try dsimp only [List.cons_append, List.nil_append])) | walk1) <;> first | (with_reducible show wpAny _ _ (subscriptTail _ (PySem.Expr.Slice _ _ _ _) _ _) _ _ _) | (try dsimp only)) | (dsimp only; walk1) | (leave1; try dsimp only) | fail "no step"))
  refine wpAny_For ?_ (by intro _; rfl)
  (repeat' ((fail_if_success (with_reducible refine stop_at (by first | exact .loop | exact .iter | exact .comp | exact .item) ?_)); first | (k_unfold; (try dsimp only)) | (k_end; wrow_close) | ((first | ((with_reducible show wpAny _ _ (call (Value.type _) [Value.ref _]) _ _ _); refine enum_call (by k_asm) (by k_asm) (by assumption) ?_; k_whole; intro hzz9 ezz9 Fzz9 Nzz9 hezz9; (try k_sweep)) | ((with_reducible show wpAny _ _ (compareOp CmpOp.NotEq (Value.ref _) (Value.ref _)) _ _ _); refine ne_told (News.isTup (by k_asm) (by k_mem)) (Fr.tup (by k_asm) (by assumption)) (by assumption) (by assumption) (by assumption) (by assumption) (by ktr_room) ?_; k_whole) | ((with_reducible show wpAny _ _ (call (Value.ref _) [Value.ref _, Value.ref _]) _ _ _); (first | ((with_reducible show wpAny _ _ (call (Value.ref 119) _) _ _ _); refine looked_use (by k_asm) (by k_asm) (by k_asm) (by k_asm) (News.isTup (by k_asm) (by k_mem)) (by assumption) (by assumption) (by ktr_room) (by ktr_room) ?_) | ((with_reducible show wpAny _ _ (call (Value.ref 126) _) _ _ _); refine written_use (by k_asm) (by k_asm) (by k_asm) (by k_asm) (News.isTup (by k_asm) (by k_mem)) (by assumption) (by assumption) (by ktr_room) (by ktr_room) ?_) | ((with_reducible show wpAny _ _ (call (Value.ref 133) _) _ _ _); refine dropped_use (by k_asm) (by k_asm) (by k_asm) (by k_asm) (News.isTup (by k_asm) (by k_mem)) (by assumption) (by assumption) (by ktr_room) (by ktr_room) ?_) | ((with_reducible show wpAny _ _ (call (Value.ref 140) _) _ _ _); refine turned_use (by k_asm) (by k_asm) (by k_asm) (by k_asm) (News.isTup (by k_asm) (by k_mem)) (by assumption) (by assumption) (by ktr_room) (by ktr_room) ?_)); k_whole; intro vzz9 hzz9 tkzz9 hvzz9 Fzz9 Nzz9; (try k_sweep)) | ((with_reducible show wpAny _ _ (spliced _) _ _ _); refine' args_plain ?qSS ?qFF ?qkk ?qPP ?_; (case qSS => rfl); (case qFF => k_asm); (case qkk => rfl); (case qPP => repeat' first | exact Plain.nil | (apply Plain.name; exact rfl; exact rfl; decide) | apply Plain.none | apply Plain.bool | apply Plain.int | apply Plain.str); k_whole; (try dsimp only [List.cons_append, List.nil_append])) | walk1) <;> first | (with_reducible show wpAny _ _ (subscriptTail _ (PySem.Expr.Slice _ _ _ _) _ _) _ _ _) | (try dsimp only)) | (dsimp only; walk1) | (leave1; try dsimp only) | fail "no step"))
  rename Fr _ _ _ _ => F₀
  refine enum_H (g := g) (fun i m _ => AgreeOff [Str.ofString "row", Str.ofString "block", Str.ofString "told", Str.ofString "point", Str.ofString "due", Str.ofString "index"] _ m) rfl (by assumption) rfl rfl rfl F₀ .refl (fun _ _ _ _ _ h _ => h) ?_ ?_
  · intro i t' v m₁ h tk hv hJ F₁
    rw [AgreeOff.form hJ] at F₁
    refine hide (fun P9 toP9 => ?_)
    obtain ⟨bv, gv, hbv, hgv, bk, sl, tv, svs, rw', dvs, dend, gl, gs, gvs', rfl, l1, l2, rfl, l3, e3, e4, hs, ht, -⟩ := hK.2.2.2 i v hv
    have hib : i < 4 := by
      have h1 := (List.getElem?_eq_some_iff.mp hv).1
      have h2 := hK.2.2.1
      omega
    have hP : ∀ (j : Nat) dv, (dvs ++ [dend])[j]? = some dv → PtB g body (i : Int) (j : Int) dv ∧ ∃ d0 d1 d2 d3, DueIs g dv d0 d1 d2 d3 := by
      intro j dv hj
      have hjl : j < dvs.length + 1 := by simpa using (List.getElem?_eq_some_iff.mp hj).1
      by_cases hlt : j < dvs.length
      · rw [List.getElem?_append_left hlt] at hj
        have hsv : svs[j]? = some (svs[j]'(by omega)) := by simp [e3, hlt]
        have hst := hs j _ dv hsv hj
        exact ⟨⟨bl, bvs, bk, sl, tv, svs, hB, hbl, hbv, l1, l2, by omega, by omega, by omega, by omega, by omega, .inl ⟨by omega, _, hsv, hst⟩⟩, hst.due⟩
      · have hje : j = dvs.length := by omega
        subst hje
        have hdv : dv = dend := by simpa using hj.symm
        subst hdv
        exact ⟨⟨bl, bvs, bk, sl, tv, svs, hB, hbl, hbv, l1, l2, by omega, by omega, by omega, by omega, by omega, .inr ⟨by omega, gs, ht⟩⟩, ht.due⟩
    obtain ⟨D, N, -, hD⟩ := refresh F₁ News.nil
    (refine toP9 ?_; clear toP9 P9)
    have kf : ∀ h' m' news', Fr g L' h' m' → News g L' h' news' → (∀ p ∈ D, p ∈ news') → KeepIt h h' := fun _ _ _ a b c => keepIt_of (ms := []) F₁ (fun _ h => nomatch h) News.nil hD a b c
    have nf := ns_fields F₁
    clear hD hbl hrl l1 l2 F₀ hB hs ht
    (try dsimp only)
    (repeat' ((fail_if_success (with_reducible refine stop_at (by first | exact .loop | exact .iter | exact .comp | exact .item) ?_)); first | (k_unfold; (try dsimp only)) | (k_end; wrow_close) | ((first | ((with_reducible show wpAny _ _ (call (Value.type _) [Value.ref _]) _ _ _); refine enum_call (by k_asm) (by k_asm) (by assumption) ?_; k_whole; intro hzz9 ezz9 Fzz9 Nzz9 hezz9; (try k_sweep)) | ((with_reducible show wpAny _ _ (compareOp CmpOp.NotEq (Value.ref _) (Value.ref _)) _ _ _); refine ne_told (News.isTup (by k_asm) (by k_mem)) (Fr.tup (by k_asm) (by assumption)) (by assumption) (by assumption) (by assumption) (by assumption) (by ktr_room) ?_; k_whole) | ((with_reducible show wpAny _ _ (call (Value.ref _) [Value.ref _, Value.ref _]) _ _ _); (first | ((with_reducible show wpAny _ _ (call (Value.ref 119) _) _ _ _); refine looked_use (by k_asm) (by k_asm) (by k_asm) (by k_asm) (News.isTup (by k_asm) (by k_mem)) (by assumption) (by assumption) (by ktr_room) (by ktr_room) ?_) | ((with_reducible show wpAny _ _ (call (Value.ref 126) _) _ _ _); refine written_use (by k_asm) (by k_asm) (by k_asm) (by k_asm) (News.isTup (by k_asm) (by k_mem)) (by assumption) (by assumption) (by ktr_room) (by ktr_room) ?_) | ((with_reducible show wpAny _ _ (call (Value.ref 133) _) _ _ _); refine dropped_use (by k_asm) (by k_asm) (by k_asm) (by k_asm) (News.isTup (by k_asm) (by k_mem)) (by assumption) (by assumption) (by ktr_room) (by ktr_room) ?_) | ((with_reducible show wpAny _ _ (call (Value.ref 140) _) _ _ _); refine turned_use (by k_asm) (by k_asm) (by k_asm) (by k_asm) (News.isTup (by k_asm) (by k_mem)) (by assumption) (by assumption) (by ktr_room) (by ktr_room) ?_)); k_whole; intro vzz9 hzz9 tkzz9 hvzz9 Fzz9 Nzz9; (try k_sweep)) | ((with_reducible show wpAny _ _ (spliced _) _ _ _); refine' args_plain ?qSS ?qFF ?qkk ?qPP ?_; (case qSS => rfl); (case qFF => k_asm); (case qkk => rfl); (case qPP => repeat' first | exact Plain.nil | (apply Plain.name; exact rfl; exact rfl; decide) | apply Plain.none | apply Plain.bool | apply Plain.int | apply Plain.str); k_whole; (try dsimp only [List.cons_append, List.nil_append])) | walk1) <;> first | (with_reducible show wpAny _ _ (subscriptTail _ (PySem.Expr.Slice _ _ _ _) _ _) _ _ _) | (try dsimp only)) | (dsimp only; walk1) | (leave1; try dsimp only) | fail "no step"))
    refine wpAny_For ?_ (by intro _; rfl)
    (repeat' ((fail_if_success (with_reducible refine stop_at (by first | exact .loop | exact .iter | exact .comp | exact .item) ?_)); first | (k_unfold; (try dsimp only)) | (k_end; wrow_close) | ((first | ((with_reducible show wpAny _ _ (call (Value.type _) [Value.ref _]) _ _ _); refine enum_call (by k_asm) (by k_asm) (by assumption) ?_; k_whole; intro hzz9 ezz9 Fzz9 Nzz9 hezz9; (try k_sweep)) | ((with_reducible show wpAny _ _ (compareOp CmpOp.NotEq (Value.ref _) (Value.ref _)) _ _ _); refine ne_told (News.isTup (by k_asm) (by k_mem)) (Fr.tup (by k_asm) (by assumption)) (by assumption) (by assumption) (by assumption) (by assumption) (by ktr_room) ?_; k_whole) | ((with_reducible show wpAny _ _ (call (Value.ref _) [Value.ref _, Value.ref _]) _ _ _); (first | ((with_reducible show wpAny _ _ (call (Value.ref 119) _) _ _ _); refine looked_use (by k_asm) (by k_asm) (by k_asm) (by k_asm) (News.isTup (by k_asm) (by k_mem)) (by assumption) (by assumption) (by ktr_room) (by ktr_room) ?_) | ((with_reducible show wpAny _ _ (call (Value.ref 126) _) _ _ _); refine written_use (by k_asm) (by k_asm) (by k_asm) (by k_asm) (News.isTup (by k_asm) (by k_mem)) (by assumption) (by assumption) (by ktr_room) (by ktr_room) ?_) | ((with_reducible show wpAny _ _ (call (Value.ref 133) _) _ _ _); refine dropped_use (by k_asm) (by k_asm) (by k_asm) (by k_asm) (News.isTup (by k_asm) (by k_mem)) (by assumption) (by assumption) (by ktr_room) (by ktr_room) ?_) | ((with_reducible show wpAny _ _ (call (Value.ref 140) _) _ _ _); refine turned_use (by k_asm) (by k_asm) (by k_asm) (by k_asm) (News.isTup (by k_asm) (by k_mem)) (by assumption) (by assumption) (by ktr_room) (by ktr_room) ?_)); k_whole; intro vzz9 hzz9 tkzz9 hvzz9 Fzz9 Nzz9; (try k_sweep)) | ((with_reducible show wpAny _ _ (spliced _) _ _ _); refine' args_plain ?qSS ?qFF ?qkk ?qPP ?_; (case qSS => rfl); (case qFF => k_asm); (case qkk => rfl); (case qPP => repeat' first | exact Plain.nil | (apply Plain.name; exact rfl; exact rfl; decide) | apply Plain.none | apply Plain.bool | apply Plain.int | apply Plain.str); k_whole; (try dsimp only [List.cons_append, List.nil_append])) | walk1) <;> first | (with_reducible show wpAny _ _ (subscriptTail _ (PySem.Expr.Slice _ _ _ _) _ _) _ _ _) | (try dsimp only)) | (dsimp only; walk1) | (leave1; try dsimp only) | fail "no step"))
    rename Fr _ _ _ _ => F₂; rename News _ _ _ _ => N₂
    have kt₁ := kf _ _ _ F₂ N₂ (fun _ h => h)
    refine enum_H (g := g) (fun j m h2 => KeepIt h h2 ∧ AgreeOff [Str.ofString "told", Str.ofString "point", Str.ofString "due", Str.ofString "index"] _ m) rfl (by assumption) rfl rfl rfl F₂ ⟨kt₁, .refl⟩ ?_ ?_ ?_
    · exact fun _ _ _ _ _ hJ ko => ⟨hJ.1.stab (fun _ _ e _ => e) nf ko, hJ.2⟩
    · intro j tj dv m₂ h2 tk2 hdv hJ2 F₃
      rw [AgreeOff.form hJ2.2] at F₃
      refine hide (fun P9 toP9 => ?_)
      obtain ⟨hPt, d0, d1, d2, d3, hDue⟩ := hP j dv hdv
      obtain ⟨du, ndu, rfl, hdu⟩ := id hDue
      have hdt := tup_of hdu
      obtain ⟨D3, N3, -, hD3⟩ := refresh F₃ News.nil
      (refine toP9 ?_; clear toP9 P9)
      have kt2 := hJ2.1
      have kf3 : ∀ h' m' news', Fr g L' h' m' → News g L' h' news' → (∀ p ∈ D3, p ∈ news') → KeepIt h2 h' := fun _ _ _ a b c => keepIt_of (ms := []) F₃ (fun _ h => nomatch h) News.nil hD3 a b c
      clear F₂ N₂ hJ hJ2 kt₁ hD3
      (try dsimp only)
      (repeat' (first | (k_unfold; (try dsimp only)) | (k_end; wrow_close) | ((first | ((with_reducible show wpAny _ _ (call (Value.type _) [Value.ref _]) _ _ _); refine enum_call (by k_asm) (by k_asm) (by assumption) ?_; k_whole; intro hzz9 ezz9 Fzz9 Nzz9 hezz9; (try k_sweep)) | ((with_reducible show wpAny _ _ (compareOp CmpOp.NotEq (Value.ref _) (Value.ref _)) _ _ _); refine ne_told (News.isTup (by k_asm) (by k_mem)) (Fr.tup (by k_asm) (by assumption)) (by assumption) (by assumption) (by assumption) (by assumption) (by ktr_room) ?_; k_whole) | ((with_reducible show wpAny _ _ (call (Value.ref _) [Value.ref _, Value.ref _]) _ _ _); (first | ((with_reducible show wpAny _ _ (call (Value.ref 119) _) _ _ _); refine looked_use (by k_asm) (by k_asm) (by k_asm) (by k_asm) (News.isTup (by k_asm) (by k_mem)) (by assumption) (by assumption) (by ktr_room) (by ktr_room) ?_) | ((with_reducible show wpAny _ _ (call (Value.ref 126) _) _ _ _); refine written_use (by k_asm) (by k_asm) (by k_asm) (by k_asm) (News.isTup (by k_asm) (by k_mem)) (by assumption) (by assumption) (by ktr_room) (by ktr_room) ?_) | ((with_reducible show wpAny _ _ (call (Value.ref 133) _) _ _ _); refine dropped_use (by k_asm) (by k_asm) (by k_asm) (by k_asm) (News.isTup (by k_asm) (by k_mem)) (by assumption) (by assumption) (by ktr_room) (by ktr_room) ?_) | ((with_reducible show wpAny _ _ (call (Value.ref 140) _) _ _ _); refine turned_use (by k_asm) (by k_asm) (by k_asm) (by k_asm) (News.isTup (by k_asm) (by k_mem)) (by assumption) (by assumption) (by ktr_room) (by ktr_room) ?_)); k_whole; intro vzz9 hzz9 tkzz9 hvzz9 Fzz9 Nzz9; (try k_sweep)) | ((with_reducible show wpAny _ _ (spliced _) _ _ _); refine' args_plain ?qSS ?qFF ?qkk ?qPP ?_; (case qSS => rfl); (case qFF => k_asm); (case qkk => rfl); (case qPP => repeat' first | exact Plain.nil | (apply Plain.name; exact rfl; exact rfl; decide) | apply Plain.none | apply Plain.bool | apply Plain.int | apply Plain.str); k_whole; (try dsimp only [List.cons_append, List.nil_append])) | walk1) <;> first | (with_reducible show wpAny _ _ (subscriptTail _ (PySem.Expr.Slice _ _ _ _) _ _) _ _ _) | (try dsimp only)) | (dsimp only; walk1) | (leave1; try dsimp only) | fail "no step"))
      (try dsimp only)
      rename Fr _ _ _ _ => F; rename News _ _ _ _ => N
      refine ⟨_, _, _, rfl, F, kf3 _ _ _ F N (fun p hp => .tail _ (.tail _ hp)), kt2.trans (kf3 _ _ _ F N (fun p hp => .tail _ (.tail _ hp))), ?_⟩
      intro y hy
      simp only [List.mem_cons, List.not_mem_nil, or_false, not_or] at hy
      simp only [pick, hy, if_false]
    · intro m' h' tk' hJ' F'
      have F9 := F'
      rw [AgreeOff.form hJ'.2] at F9
      clear F'
      (try dsimp only)
      (repeat' (first | (k_unfold; (try dsimp only)) | (k_end; wrow_close) | ((first | ((with_reducible show wpAny _ _ (call (Value.type _) [Value.ref _]) _ _ _); refine enum_call (by k_asm) (by k_asm) (by assumption) ?_; k_whole; intro hzz9 ezz9 Fzz9 Nzz9 hezz9; (try k_sweep)) | ((with_reducible show wpAny _ _ (compareOp CmpOp.NotEq (Value.ref _) (Value.ref _)) _ _ _); refine ne_told (News.isTup (by k_asm) (by k_mem)) (Fr.tup (by k_asm) (by assumption)) (by assumption) (by assumption) (by assumption) (by assumption) (by ktr_room) ?_; k_whole) | ((with_reducible show wpAny _ _ (call (Value.ref _) [Value.ref _, Value.ref _]) _ _ _); (first | ((with_reducible show wpAny _ _ (call (Value.ref 119) _) _ _ _); refine looked_use (by k_asm) (by k_asm) (by k_asm) (by k_asm) (News.isTup (by k_asm) (by k_mem)) (by assumption) (by assumption) (by ktr_room) (by ktr_room) ?_) | ((with_reducible show wpAny _ _ (call (Value.ref 126) _) _ _ _); refine written_use (by k_asm) (by k_asm) (by k_asm) (by k_asm) (News.isTup (by k_asm) (by k_mem)) (by assumption) (by assumption) (by ktr_room) (by ktr_room) ?_) | ((with_reducible show wpAny _ _ (call (Value.ref 133) _) _ _ _); refine dropped_use (by k_asm) (by k_asm) (by k_asm) (by k_asm) (News.isTup (by k_asm) (by k_mem)) (by assumption) (by assumption) (by ktr_room) (by ktr_room) ?_) | ((with_reducible show wpAny _ _ (call (Value.ref 140) _) _ _ _); refine turned_use (by k_asm) (by k_asm) (by k_asm) (by k_asm) (News.isTup (by k_asm) (by k_mem)) (by assumption) (by assumption) (by ktr_room) (by ktr_room) ?_)); k_whole; intro vzz9 hzz9 tkzz9 hvzz9 Fzz9 Nzz9; (try k_sweep)) | ((with_reducible show wpAny _ _ (spliced _) _ _ _); refine' args_plain ?qSS ?qFF ?qkk ?qPP ?_; (case qSS => rfl); (case qFF => k_asm); (case qkk => rfl); (case qPP => repeat' first | exact Plain.nil | (apply Plain.name; exact rfl; exact rfl; decide) | apply Plain.none | apply Plain.bool | apply Plain.int | apply Plain.str); k_whole; (try dsimp only [List.cons_append, List.nil_append])) | walk1) <;> first | (with_reducible show wpAny _ _ (subscriptTail _ (PySem.Expr.Slice _ _ _ _) _ _) _ _ _) | (try dsimp only)) | (dsimp only; walk1) | (leave1; try dsimp only) | fail "no step"))
      (try dsimp only)
      refine ⟨_, _, _, rfl, F9, hJ'.1, ?_⟩
      intro y hy
      simp only [List.mem_cons, List.not_mem_nil, or_false, not_or] at hy
      simp only [pick, hy, if_false]
  · intro m' h' tk' hJ' F'
    rw [AgreeOff.form hJ'] at F'
    clear F₀
    (try dsimp only)
    (repeat' (first | (k_unfold; (try dsimp only)) | (k_end; wrow_close) | ((first | ((with_reducible show wpAny _ _ (call (Value.type _) [Value.ref _]) _ _ _); refine enum_call (by k_asm) (by k_asm) (by assumption) ?_; k_whole; intro hzz9 ezz9 Fzz9 Nzz9 hezz9; (try k_sweep)) | ((with_reducible show wpAny _ _ (compareOp CmpOp.NotEq (Value.ref _) (Value.ref _)) _ _ _); refine ne_told (News.isTup (by k_asm) (by k_mem)) (Fr.tup (by k_asm) (by assumption)) (by assumption) (by assumption) (by assumption) (by assumption) (by ktr_room) ?_; k_whole) | ((with_reducible show wpAny _ _ (call (Value.ref _) [Value.ref _, Value.ref _]) _ _ _); (first | ((with_reducible show wpAny _ _ (call (Value.ref 119) _) _ _ _); refine looked_use (by k_asm) (by k_asm) (by k_asm) (by k_asm) (News.isTup (by k_asm) (by k_mem)) (by assumption) (by assumption) (by ktr_room) (by ktr_room) ?_) | ((with_reducible show wpAny _ _ (call (Value.ref 126) _) _ _ _); refine written_use (by k_asm) (by k_asm) (by k_asm) (by k_asm) (News.isTup (by k_asm) (by k_mem)) (by assumption) (by assumption) (by ktr_room) (by ktr_room) ?_) | ((with_reducible show wpAny _ _ (call (Value.ref 133) _) _ _ _); refine dropped_use (by k_asm) (by k_asm) (by k_asm) (by k_asm) (News.isTup (by k_asm) (by k_mem)) (by assumption) (by assumption) (by ktr_room) (by ktr_room) ?_) | ((with_reducible show wpAny _ _ (call (Value.ref 140) _) _ _ _); refine turned_use (by k_asm) (by k_asm) (by k_asm) (by k_asm) (News.isTup (by k_asm) (by k_mem)) (by assumption) (by assumption) (by ktr_room) (by ktr_room) ?_)); k_whole; intro vzz9 hzz9 tkzz9 hvzz9 Fzz9 Nzz9; (try k_sweep)) | ((with_reducible show wpAny _ _ (spliced _) _ _ _); refine' args_plain ?qSS ?qFF ?qkk ?qPP ?_; (case qSS => rfl); (case qFF => k_asm); (case qkk => rfl); (case qPP => repeat' first | exact Plain.nil | (apply Plain.name; exact rfl; exact rfl; decide) | apply Plain.none | apply Plain.bool | apply Plain.int | apply Plain.str); k_whole; (try dsimp only [List.cons_append, List.nil_append])) | walk1) <;> first | (with_reducible show wpAny _ _ (subscriptTail _ (PySem.Expr.Slice _ _ _ _) _ _) _ _ _) | (try dsimp only)) | (dsimp only; walk1) | (leave1; try dsimp only) | fail "no step"))
    (try dsimp only)
    rename Fr _ _ _ _ => F
    exact hQ _ _ fun b o e => F.keep b o (k b o e)
section
variable {prog : Program} {w : World} {A : Around} {E : Value → Shared → Prop} {s : Shared} {env : Env} {g H₀ : Heap} {L : Addr} {m : Str → Option Value}
/-- one turn's draw of a comprehension: the next item, and its names bound in the block's own namespace -/
structure Nxt (prog : Program) (w : World) (A : Around) (g : Heap) (I : Addr) (target : PySem.Expr) (cenv : Env) (wr : List Addr) (n : Nat) (St : Nat → Heap → Prop) (B : Nat → (Str → Option Value) → Prop) : Prop where
  item : ∀ i (s : Shared) (K : Option Value → Sem PySem.Fin) (T : Sem PySem.Fin) (P : PySem.Fin → Shared → Prop) (E : Value → Shared → Prop) mC, i < n → St i s.heap → s.heap.Ns cenv.locals mC →
    (∀ v, K (some v) = (letOwnedTupleGo target (.ref I) v >>= fun _ => assign target cenv v >>= fun _ => T)) →
    (∀ h' tk mC', St (i + 1) h' → h'.Ns cenv.locals mC' → B i mC' → (∀ b o, s.heap.get? b = some o → b ≠ cenv.locals → b ∉ wr → h'.get? b = some o) → wpAny (model prog w) A T P E { s with heap := h', toks := tk }) →
    wpAny (model prog w) A (pyNext (.ref I) >>= K) P E s
  done : ∀ (s : Shared) (K : Option Value → Sem PySem.Fin) (P : PySem.Fin → Shared → Prop) (E : Value → Shared → Prop), St n s.heap →
    (∀ h' tk, (∀ b o, s.heap.get? b = some o → b ∉ wr → h'.get? b = some o) → wpAny (model prog w) A (K none) P E { s with heap := h', toks := tk }) →
    wpAny (model prog w) A (pyNext (.ref I) >>= K) P E s
  flds : ∀ i h, St i h → ∀ b ∈ wr, ∀ o, h.get? b = some o → isFields o = true
  hold : ∀ i h h', St i h → KeepIt h h' → (∀ b o, g.get? b = some o → h'.get? b = some o) → St i h'
  offB : ∀ b ∈ wr, g.get? b = none
  self : ∀ i (s : Shared) (Q : Value → Shared → Prop) (E : Value → Shared → Prop), St i s.heap → Q (.ref I) s → wpAny (model prog w) A (pyIter (.ref I)) Q E s
theorem ns_not_fields {h : Heap} {a : Addr} {mc : Str → Option Value} (x : h.Ns a mc) : ∀ o, h.get? a = some o → isFields o = false := fun o e => by
  refine hide (fun P9 toP9 => ?_)
  obtain ⟨o', es, ep, e', hd, _⟩ := x
  (refine toP9 ?_; clear toP9 P9)
  rw [e] at e'; cases e'
  unfold isFields; rw [hd]
/-- what an element's evaluation leaves -/
def ElH (g : Heap) (L : Addr) (m : Str → Option Value) (C D : Addr) (h : Heap) (s : Shared) (ys : List Value) (Jn : List Value → Heap → Prop) (x : Value) (s' : Shared) : Prop :=
  ∃ h' tk' mC', s' = { s with heap := h', toks := tk' } ∧ Fr g L h' m ∧ h'.Ns C mC' ∧ h'.get? D = some (LCg.lst ys) ∧ KeepIt h h' ∧ Jn (ys ++ [x]) h'
/-- what a test's evaluation leaves, where the item is passed over -/
def TsH (g : Heap) (L : Addr) (m : Str → Option Value) (C D : Addr) (h : Heap) (s : Shared) (ys : List Value) (Jn : List Value → Heap → Prop) (s' : Shared) : Prop :=
  ∃ h' tk' mC', s' = { s with heap := h', toks := tk' } ∧ Fr g L h' m ∧ h'.Ns C mC' ∧ h'.get? D = some (LCg.lst ys) ∧ KeepIt h h' ∧ Jn ys h'
theorem codeAny_compH {R : Result → Shared → Prop} {elt target iter : PySem.Expr} {ifs : List PySem.Expr} {scope : Scope} {pos : Pos} {I D : Addr} {wr : List Addr} {n : Nat} {St : Nat → Heap → Prop} {B : Nat → (Str → Option Value) → Prop} {mC : Str → Option Value} {cenv : Env}
    (W : Nxt prog w A g I target cenv wr n St B) (hDC : D ≠ cenv.locals) (hLC : L ≠ cenv.locals) (hLD : L ≠ D) (hC₀ : g.get? cenv.locals = none) (hD₀ : g.get? D = none) (hH : ∀ b ∈ wr, H₀.get? b = none)
    (hst : St 0 s.heap) (F : Fr g L s.heap m) (hC : s.heap.Ns cenv.locals mC) (hD : s.heap.get? D = some (LCg.lst [])) (hn : n ≤ sizeLine)
    (J : Nat → List Value → Heap → Prop) (j0 : J 0 [] s.heap)
    (stab : ∀ i ys h h' mC, Fr g L h m → h.Ns cenv.locals mC → h.get? D = some (LCg.lst ys) → J i ys h → (∀ b o, h.get? b = some o → b ≠ L → b ≠ cenv.locals → b ≠ D → (isFields o = false ∨ H₀.get? b = some o) → h'.get? b = some o) → J i ys h')
    (stab2 : ∀ i ys x h h' mC, Fr g L h m → h.Ns cenv.locals mC → h.get? D = some (LCg.lst ys) → J i (ys ++ [x]) h → (∀ b o, h.get? b = some o → b ≠ D → h'.get? b = some o) → J i (ys ++ [x]) h')
    (step : ∀ i h tk ys mC, i < n → ys.length ≤ i → B i mC → Fr g L h m → h.Ns cenv.locals mC → h.get? D = some (LCg.lst ys) → J i ys h →
      wpAny (model prog w) A (forIn ifs true fun c r => if r = true then do let ok ← isTrue c cenv (eval c cenv); pure (ForInStep.yield ok) else pure (ForInStep.yield r)) (fun ok s₃ =>
        if ok = true then wpAny (model prog w) A (eval elt cenv) (ElH g L m cenv.locals D h s ys (J (i + 1))) (notedBy (model prog w) A cenv fun e s' => R (.error e) s') s₃ else TsH g L m cenv.locals D h s ys (J (i + 1)) s₃)
        (notedBy (model prog w) A cenv fun e s' => R (.error e) s') { s with heap := h, toks := tk })
    (done : ∀ h tk ys mC, ys.length ≤ n → Fr g L h m → h.Ns cenv.locals mC → h.get? D = some (LCg.lst ys) → J n ys h → R (.ok .next) { s with heap := h, toks := tk }) :
    codeAny (model prog w) A (.compLoop (.ListComp elt [⟨target, iter, ifs, 0⟩] scope pos) 0 (.ref I) (.ref D) cenv) R s := by
  have hDf : isFields (LCg.lst []) = false := rfl
  have oldW : ∀ b o, g.get? b = some o → b ∉ wr := fun b o e hb => by rw [W.offB b hb] at e; cases e
  refine codeAny_loop rfl (fun k s' => ∃ h tk i ys mC, s' = { s with heap := h, toks := tk } ∧ i ≤ n ∧ k = n + 1 - i ∧ ys.length ≤ i ∧ St i h ∧ Fr g L h m ∧ h.Ns cenv.locals mC ∧ h.get? D = some (LCg.lst ys) ∧ J i ys h) ?_ (n + 1)
    ⟨s.heap, s.toks, 0, [], mC, rfl, Nat.zero_le _, rfl, Nat.le_refl _, hst, F, hC, hD, j0⟩
  rintro k s' ⟨h, tk, i, ys, mC, rfl, hi, rfl, hyl, hst', F', hC', hD', hJ⟩
  show wpAny _ A ((compTurn (.ListComp elt [⟨target, iter, ifs, 0⟩] scope pos) 0 (.ref I) (.ref D) cenv).onRaise (fun x => do noteFrame x cenv; theTreesLotGoes x)) _ _ _
  refine wpAny_noted ?_
  rw [compTurn_list]
  refine wpAny_bind (wpAny_standAt ?_)
  have lstF : ∀ ys, isFields (LCg.lst ys) = false := fun _ => rfl
  by_cases hlt : i < n
  · refine W.item i _ _ _ _ _ mC hlt hst' hC' (fun v => rfl) fun h₁ tk₁ mC₁ hst₁ hC₁ hB k₁ => ?_
    have nw : ∀ b o, h.get? b = some o → isFields o = false → b ∉ wr := fun b o e hf q => by rw [W.flds i h hst' b q o e] at hf; cases hf
    have hL₁ : ∀ o, h.get? L = some o → h₁.get? L = some o := fun o e => k₁ L o e hLC (nw L o e (ns_fields F' o e))
    have F₁ : Fr g L h₁ m := ⟨F'.ns.at' hL₁, fun b o e => k₁ b o (F'.keep b o e) (fun q => by rw [q, hC₀] at e; cases e) (oldW b o e), F'.above⟩
    have hD₁ : h₁.get? D = some (LCg.lst ys) := k₁ D _ hD' hDC (nw D _ hD' (lstF ys))
    have hJ₁ : J i ys h₁ := stab i ys h h₁ mC F' hC' hD' hJ fun b o e hbL hbC hbD hf => k₁ b o e hbC (hf.elim (nw b o e) fun q hb => by rw [hH b hb] at q; cases q)
    exact wpAny_bind (wpAny_mono (step i h₁ tk₁ ys mC₁ hlt hyl hB F₁ hC₁ hD₁ hJ₁) (fun ok s₃ h₃ => by
      cases ok with
      | false =>
        simp only [Bool.false_eq_true, if_false] at h₃
        refine hide (fun P9 toP9 => ?_)
        obtain ⟨h₄, tk₄, mC₄, rfl, F₄, hC₄, hD₄, kt, hJ₄⟩ := h₃
        (refine toP9 ?_; clear toP9 P9)
        exact wpAny_bind (wpAny_pure (wpAny_pure ⟨rfl, n + 1 - (i + 1), by omega, h₄, tk₄, i + 1, ys, mC₄, rfl, hlt, rfl, Nat.le_succ_of_le hyl, W.hold _ _ _ hst₁ kt F₄.keep, F₄, hC₄, hD₄, hJ₄⟩))
      | true =>
        simp only [if_true] at h₃
        refine wpAny_bind (wpAny_bind (wpAny_mono h₃ (fun x s₄ h₄ => ?_) fun _ _ e => e))
        refine hide (fun P9 toP9 => ?_)
        obtain ⟨h₄, tk₄, mC₄, rfl, F₄, hC₄, hD₄, kt, hJ₄⟩ := h₄
        (refine toP9 ?_; clear toP9 P9)
        refine wpAny_bind (append_at (hsz := by rw [List.size_toArray]; omega) hD₄ fun h₅ hs₅ hD₅ => wpAny_pure (wpAny_pure ⟨rfl, n + 1 - (i + 1), by omega, h₅, tk₄, i + 1, ys ++ [x], mC₄, rfl, hlt, rfl, by rw [List.length_append, List.length_singleton]; omega, ?_, F₄.change hs₅ (Ne.symm hLD) hD₀, hC₄.sameBut hs₅ (Ne.symm hDC), hD₅.trans (congrArg some (LCg.lst_snoc ys x)), ?_⟩))
        · exact W.hold _ _ _ hst₁ (fun b o e hf => hs₅.extBut b o (fun q => by have := kt b o e hf; rw [q, hD₄] at this; cases this; cases hf) (kt b o e hf)) (F₄.change hs₅ (Ne.symm hLD) hD₀).keep
        · exact stab2 (i + 1) ys x h₄ h₅ mC₄ F₄ hC₄ hD₄ hJ₄ fun b o e hb => hs₅.extBut b o hb e) fun _ _ e => e)
  · obtain rfl : i = n := Nat.le_antisymm hi (Nat.not_lt.mp hlt)
    refine W.done _ _ _ _ hst' fun h₁ tk₁ k₁ => ?_
    have nw : ∀ b o, h.get? b = some o → isFields o = false → b ∉ wr := fun b o e hf q => by rw [W.flds i h hst' b q o e] at hf; cases hf
    have F₁ : Fr g L h₁ m := ⟨F'.ns.at' fun o e => k₁ L o e (nw L o e (ns_fields F' o e)), fun b o e => k₁ b o (F'.keep b o e) (oldW b o e), F'.above⟩
    refine wpAny_pure ?_
    exact done h₁ tk₁ ys mC hyl F₁ (hC'.at' fun o e => k₁ _ o e (nw _ o e (ns_not_fields hC' o e))) (k₁ D _ hD' (nw D _ hD' (lstF ys)))
      (stab i ys h h₁ mC F' hC' hD' hJ fun b o e _ _ _ hf => k₁ b o e (hf.elim (nw b o e) fun q hb => by rw [hH b hb] at q; cases q))
end
section
variable {prog : Program} {w : World} {A : Around} {E : Value → Shared → Prop} {s : Shared} {env : Env} {g : Heap} {L : Addr}
/-- the block's loop over an iterator, with what it keeps: Hs' objects -/
def CompAt (prog : Program) (w : World) (A : Around) (g : Heap) (L : Addr) (env : Env) (scope : Scope) (cl : List (Str × Addr)) (target elt : PySem.Expr) (ifs : List PySem.Expr) (m : Str → Option Value) (Hs : Heap) (n : Nat) (J : Nat → List Value → Prop) (it : Value) (s₂ : Shared) : Prop :=
  ∃ I wr St, it = .ref I ∧ Fr g L s₂.heap m ∧ St 0 s₂.heap ∧ (∀ b o, Hs.get? b = some o → b ≠ L → s₂.heap.get? b = some o) ∧ (∀ b ∈ wr, Hs.get? b = none) ∧ L ∉ wr ∧ (∀ h h' : Heap, St 0 h → (∀ b o, h.get? b = some o → h'.get? b = some o) → St 0 h') ∧ n ≤ sizeLine ∧ J 0 [] ∧
    ∀ C, s₂.heap.get? C = none → ∃ B, Nxt prog w A g I target (compEnvC scope cl C env) wr n St B ∧
      ∀ D i h tk ys mC (R : Value → Shared → Prop), i < n → ys.length ≤ i → B i mC → Fr g L h m → h.Ns C mC → h.get? D = some (LCg.lst ys) → D ≠ C → L ≠ C → L ≠ D → g.get? C = none → g.get? D = none → (∀ b o, Hs.get? b = some o → b ≠ L → h.get? b = some o) → Hs.get? C = none → Hs.get? D = none → J i ys →
        wpAny (model prog w) A (forIn ifs true fun c r => if r = true then do let ok ← isTrue c (compEnvC scope cl C env) (eval c (compEnvC scope cl C env)); pure (ForInStep.yield ok) else pure (ForInStep.yield r)) (fun ok s₃ =>
          if ok = true then wpAny (model prog w) A (eval elt (compEnvC scope cl C env)) (ElH g L m C D h s₂ ys (fun ys' h' => J (i + 1) ys' ∧ ∀ b o, Hs.get? b = some o → b ≠ L → h'.get? b = some o)) R s₃
          else TsH g L m C D h s₂ ys (fun ys' h' => J (i + 1) ys' ∧ ∀ b o, Hs.get? b = some o → b ≠ L → h'.get? b = some o) s₃) R { s₂ with heap := h, toks := tk }
theorem ListComp_H {elt iter target : PySem.Expr} {ifs : List PySem.Expr} {scope : Scope} {cl : List (Str × Addr)} {pos : Pos} {Q : Value → Shared → Prop} {m : Str → Option Value} {Hs : Heap} {n : Nat} (J : Nat → List Value → Prop)
    (hclos : closureFor scope env = pure cl) (hcell : ∀ y ∈ scope.names, y.2 ≠ .cell) (hkind : scope.kind = .function)
    (hnames : ∀ y ∈ scope.names, y.2 = .local → scope.names.lookup y.1 = some .local)
    (h : wpAny (model prog w) A (eval iter env) (fun xv s₁ => wpAny (model prog w) A (pyIter xv) (fun it s₂ => CompAt prog w A g L env scope cl target elt ifs m Hs n J it s₂ ∧
      ∀ D h' tk ys, Fr g L h' m → h'.get? D = some (LCg.lst ys) → g.get? D = none → D ≠ L → Hs.get? D = none → (∀ b o, Hs.get? b = some o → b ≠ L → h'.get? b = some o) → J n ys → Q (.ref D) { s₂ with heap := h', toks := tk }) E s₁) E s)
    (hs : ∀ x, foldedSetIterable iter env x = pure x := by intro _; rfl) :
    wpAny (model prog w) A (eval (.ListComp elt [⟨target, iter, ifs, 0⟩] scope pos) env) Q E s := by
  rw [eval_ListComp]
  refine wpAny_comprehension_free (use := none) rfl hs hclos hkind hnames (wpAny_mono h (fun xv s₁ h₁ => wpAny_mono h₁ (fun it s₂ h₂ => ?_) fun _ _ e => e) fun _ _ e => e)
  refine hide (fun P9 toP9 => ?_)
  obtain ⟨⟨I, wr, St, rfl, F, hst, hHs, hwr, hLw, hgrow, hn, j0, hC⟩, hQ⟩ := h₂
  (refine toP9 ?_; clear toP9 P9)
  refine wpAny_newObj_type (wpAny_newFunctionEnv hcell (by intro y hy; simp at hy) (fun h₁ hns₁ hsb₁ => ?_) hkind)
  dsimp only at hns₁ hsb₁ ⊢
  generalize hH2 : s₂.heap.push { cls := .type "list", dict := none, data := .seq ([] : List Value).toArray } = H2 at hns₁ hsb₁ ⊢
  have hCs : H2.objs.size = s₂.heap.objs.size + 1 := by rw [← hH2, Heap.size_push]
  have fresh : ∀ a, s₂.heap.objs.size ≤ a → s₂.heap.get? a = none := fun a ha => Heap.get?_none_of_le ha
  have fresh₀ : ∀ a, s₂.heap.objs.size ≤ a → g.get? a = none := fun a ha => by
    cases e : g.get? a with
    | none => rfl
    | some o' => have := F.keep a o' e; rw [fresh a ha] at this; cases this
  have hLlt : L < s₂.heap.objs.size := F.ns.lt
  have freshH : ∀ a, s₂.heap.objs.size ≤ a → Hs.get? a = none := fun a ha => by
    cases e : Hs.get? a with
    | none => rfl
    | some o' => have := hHs a o' e (fun q => absurd hLlt (Nat.not_lt.mpr (q ▸ ha))); rw [fresh a ha] at this; cases this
  have hDC : s₂.heap.objs.size ≠ H2.objs.size := by rw [hCs]; exact Nat.ne_of_lt (Nat.lt_succ_self _)
  have hLC : L ≠ H2.objs.size := by rw [hCs]; exact Nat.ne_of_lt (Nat.lt_succ_of_lt hLlt)
  have hLD : L ≠ s₂.heap.objs.size := Nat.ne_of_lt hLlt
  have hle : s₂.heap.objs.size ≤ H2.objs.size := by rw [hCs]; exact Nat.le_succ _
  have old : ∀ b o, s₂.heap.get? b = some o → h₁.get? b = some o := fun b o e => hsb₁.extBut b o (by rw [hCs]; exact Nat.ne_of_lt (Nat.lt_succ_of_lt (Heap.lt_size e))) (Heap.get?_push_of_some _ (hH2 ▸ Heap.get?_push_of_some _ e))
  have hacc : h₁.get? s₂.heap.objs.size = some (LCg.lst []) := hsb₁.extBut _ _ hDC (Heap.get?_push_of_some _ (hH2 ▸ Heap.get?_push_size _ rfl))
  refine hide (fun P9 toP9 => ?_)
  obtain ⟨B, W, step⟩ := hC H2.objs.size (fresh _ hle)
  (refine toP9 ?_; clear toP9 P9)
  have hst₁ : St 0 h₁ := hgrow _ _ hst old
  have loop : ∀ s₃ : Shared, s₃ = { s₂ with heap := h₁, toks := s₂.toks + ([] : List (Str × Value)).length } →
      codeAny (model prog w) A (.compLoop (.ListComp elt [⟨target, iter, ifs, 0⟩] scope pos) 0 (.ref I) (.ref s₂.heap.objs.size) (compEnvC scope cl H2.objs.size env))
        (compPost (model prog w) A E none Q (.ref s₂.heap.objs.size) H2.objs.size) s₃ := by
    rintro s₃ rfl
    refine codeAny_compH (H₀ := Hs) (cenv := compEnvC scope cl H2.objs.size env) W hDC hLC hLD (fresh₀ _ hle) (fresh₀ _ (Nat.le_refl _)) hwr hst₁ (F.keeps old) hns₁ hacc hn (fun i ys h => J i ys ∧ ∀ b o, Hs.get? b = some o → b ≠ L → h.get? b = some o) ⟨j0, fun b o e hb => old b o (hHs b o e hb)⟩ ?_ ?_ ?_ ?_
    · intro i ys h h' mC _ _ _ hJ k
      exact ⟨hJ.1, fun b o e hb => k b o (hJ.2 b o e hb) hb (fun q => by have z := freshH H2.objs.size hle; rw [q] at e; exact absurd (e.symm.trans z) (by simp)) (fun q => by rw [q, freshH _ (Nat.le_refl _)] at e; cases e) (.inr e)⟩
    · intro i ys x h h' mC _ _ _ hJ k
      exact ⟨hJ.1, fun b o e hb => k b o (hJ.2 b o e hb) (fun q => by rw [q, freshH _ (Nat.le_refl _)] at e; cases e)⟩
    · intro i h tk ys mC hi hy hB F' hC' hD' hJ
      exact step _ i h tk ys mC _ hi hy hB F' hC' hD' hDC hLC hLD (fresh₀ _ hle) (fresh₀ _ (Nat.le_refl _)) hJ.2 (freshH _ hle) (freshH _ (Nat.le_refl _)) hJ.1
    · intro h tk ys mC _ F' hC' hD' hJ
      refine ⟨mC, hC', fun h'' hs'' => hQ _ h'' tk ys (F'.change hs'' (Ne.symm hLC) (fresh₀ _ hle)) (hs''.extBut _ _ hDC hD') (fresh₀ _ (Nat.le_refl _)) (Ne.symm hLD) (freshH _ (Nat.le_refl _)) (fun b o e hb => hs''.extBut _ _ (fun q => by have z := freshH H2.objs.size hle; rw [q] at e; exact absurd (e.symm.trans z) (by simp)) (hJ.2 b o e hb)) hJ.1⟩
  exact codeAny_compStart_list (loop _ rfl) (W.self 0 _ _ _ hst₁ (loop _ rfl))
end
section
variable {prog : Program} {w : World} {A : Around} {env : Env} {g : Heap}
theorem go_tupleiter {E : Value → Shared → Prop} {s : Shared} {elts : List PySem.Expr} {x1} {pos : Pos} {I l T : Addr} {i : Nat} {Q : Unit → Shared → Prop} (hit : s.heap.IsTupleIter I l i) (hQ : Q () s) :
    wpAny (model prog w) A (letOwnedTupleGo (.Tuple elts x1 pos) (.ref I) (.ref T)) Q E s := by
  refine hide (fun P9 toP9 => ?_)
  obtain ⟨o, ho, hc, hd⟩ := hit
  (refine toP9 ?_; clear toP9 P9)
  unfold letOwnedTupleGo
  refine wpAny_bind (wpAny_load ho ?_)
  rw [hc, hd]
  show wpAny _ A (if (["enumerate", "zip", "dict_itemiterator", "dict_reverseitemiterator", "odict_iterator", "itertools.zip_longest", "itertools.pairwise"].contains "tuple_iterator" &&
      (#[.ref l, .int i 0] : Array Value)[0]? == some (rawInt T)) = true then _ else _) Q E s
  rw [if_neg (by
    intro h
    rw [show (["enumerate", "zip", "dict_itemiterator", "dict_reverseitemiterator", "odict_iterator", "itertools.zip_longest", "itertools.pairwise"].contains "tuple_iterator") = false from by decide, Bool.false_and] at h
    cases h)]
  exact wpAny_pure hQ
section
variable {scope : Scope} {cl : List (Str × Addr)} {C I tx : Addr} {items : List Value} {x x1 x2 : Str} {p1 p2 tp : Pos} {tk}
theorem nxt_tuple (hh : A.handled = none) (hkind : scope.kind = .function) (hx1 : scope.names.lookup x1 = some .local) (hx2 : scope.names.lookup x2 = some .local) (hxx : x1 ≠ x2)
    (ht : g.IsTuple tx items.toArray) (hI : g.get? I = none) (hIC : I ≠ C) (hCg : g.get? C = none) (hits : ∀ (i : Nat) (v : Value), items[i]? = some v → ∃ (t : Addr) (v0 v1 : Value), v = .ref t ∧ g.IsTuple t #[v0, v1]) :
    Nxt prog w A g I (.Tuple [.Name x1 p1, .Name x2 p2] tk tp) (compEnvC scope cl C env) [I] items.length (fun i h => h.IsTupleIter I tx i ∧ ∀ b o, g.get? b = some o → h.get? b = some o)
      (fun i mC => ∃ t v0 v1, items[i]? = some (.ref t) ∧ g.IsTuple t #[v0, v1] ∧ mC x1 = some v0 ∧ mC x2 = some v1) where
  item := fun i s K T P E mC hi st hC hK h => by
    refine hide (fun P9 toP9 => ?_)
    obtain ⟨t, v0, v1, hv, htt⟩ : ∃ t v0 v1, items[i]? = some (.ref t) ∧ g.IsTuple t #[v0, v1] := by
      obtain ⟨t, v0, v1, e, htt⟩ := hits i items[i] (by simp [hi])
      exact ⟨t, v0, v1, by rw [← e]; simp [hi], htt⟩
    (refine toP9 ?_; clear toP9 P9)
    have htx : s.heap.IsTuple tx items.toArray := ht.at fun o e => st.2 _ _ e
    refine wpAny_bind (wpAny_pyNext_tuple_item st.1 htx (x := .ref t) (by simpa using hv) fun h₁ hit₁ hs₁ => ?_)
    rw [hK]
    refine wpAny_bind (go_tupleiter hit₁ (wpAny_bind ?_))
    have k₁ : ∀ b o, b ≠ I → s.heap.get? b = some o → h₁.get? b = some o := fun b o hb e => hs₁.extBut b o hb e
    have ne : ∀ {b o}, g.get? b = some o → b ≠ I := fun e q => by rw [q, hI] at e; cases e
    have ht₁ : IsTup h₁ t #[v0, v1] := htt.at fun o e => k₁ _ _ (ne e) (st.2 _ _ e)
    refine assign_Tuple_tuple hh ht₁ rfl rfl fun h₅ he => ?_
    have he' : ∀ b o, h₁.get? b = some o → h₅.get? b = some o := fun b o e => he b o (Nat.ne_of_lt (Heap.lt_size e)) e
    have hC₅ : h₅.Ns C mC := (hC.at' fun o e => k₁ _ o (Ne.symm hIC) e).at' fun o e => he' _ o e
    refine assignInOrder_cons (wpAny_assign_Name (wpAny_storeName_local (lookup_relabel_local hx1) hC₅ (fun h₆ hn₆ hs₆ => ?_) (by simp [compEnvC, relabel, hkind])))
    refine assignInOrder_cons (wpAny_assign_Name (wpAny_storeName_local (lookup_relabel_local hx2) hn₆ (fun h₇ hn₇ hs₇ => ?_) (by simp [compEnvC, relabel, hkind])))
    refine assignInOrder_nil ?_
    have up : ∀ b o, b ≠ C → h₅.get? b = some o → h₇.get? b = some o := fun b o hb e => hs₇.extBut b o hb (hs₆.extBut b o hb e)
    refine hide (fun P9 toP9 => ?_)
    obtain ⟨oi, hoi, ri⟩ := hit₁
    (refine toP9 ?_; clear toP9 P9)
    exact h h₇ _ _ ⟨⟨oi, up _ _ hIC (he' _ _ hoi), ri⟩, fun b o e => up b o (fun q => by rw [show b = C from q, hCg] at e; cases e) (he' _ _ (k₁ _ _ (ne e) (st.2 _ _ e)))⟩ hn₇ ⟨t, v0, v1, hv, htt, by simp [hxx], by simp⟩
      fun b o e hb hw => up b o hb (he' _ _ (k₁ _ _ (by simpa using hw) e))
  done := fun s K P E st h => wpAny_bind (wpAny_pyNext_tuple_end hh st.1 (ht.at fun o e => st.2 _ _ e) (by simp) fun h' he => h h' s.toks fun b o e hb => he b o (by simpa using hb) e)
  flds := fun i h st b hb o e => by
    refine hide (fun P9 toP9 => ?_)
    obtain ⟨o', ho', _, hd⟩ := st.1
    (refine toP9 ?_; clear toP9 P9)
    rw [List.mem_singleton.mp hb, ho'] at e; cases e
    unfold isFields; rw [hd]
  hold := fun i h h' st kt kg => by
    refine hide (fun P9 toP9 => ?_)
    obtain ⟨o', ho', hc, hd⟩ := st.1
    (refine toP9 ?_; clear toP9 P9)
    exact ⟨⟨o', kt _ _ ho' (by unfold isFields; rw [hd]), hc, hd⟩, kg⟩
  offB := fun b hb => by rw [List.mem_singleton.mp hb]; exact hI
  self := fun i s Q E st hQ => wpAny_pyIter_tupleiter st.1 hQ
theorem nxt_list (hh : A.handled = none) (hkind : scope.kind = .function) (hx : scope.names.lookup x = some .local)
    (ht : g.IsList tx items.toArray) (hI : g.get? I = none) (hIC : I ≠ C) (hCg : g.get? C = none) :
    Nxt prog w A g I (.Name x p1) (compEnvC scope cl C env) [I] items.length (fun i h => h.IsListIter I tx i ∧ ∀ b o, g.get? b = some o → h.get? b = some o)
      (fun i mC => ∃ v, items[i]? = some v ∧ mC x = some v) where
  item := fun i s K T P E mC hi st hC hK h => by
    have hv : items[i]? = some items[i] := by simp [hi]
    have htx : s.heap.IsList tx items.toArray := ht.at fun o e => st.2 _ _ e
    refine wpAny_bind (wpAny_pyNext_list_item st.1 htx (x := items[i]) (by simpa using hv) fun h₁ hit₁ hs₁ => ?_)
    rw [hK]
    have ne : ∀ {b o}, g.get? b = some o → b ≠ I := fun e q => by rw [q, hI] at e; cases e
    refine wpAny_bind (wpAny_pure (wpAny_bind (wpAny_assign_Name (wpAny_storeName_local (lookup_relabel_local hx) (hC.at' fun o e => hs₁.extBut _ o (Ne.symm hIC) e) (fun h₇ hn₇ hs₇ => ?_) (by simp [compEnvC, relabel, hkind])))))
    refine hide (fun P9 toP9 => ?_)
    obtain ⟨oi, hoi, ri⟩ := hit₁
    (refine toP9 ?_; clear toP9 P9)
    exact h h₇ _ _ ⟨⟨oi, hs₇.extBut _ _ hIC hoi, ri⟩, fun b o e => hs₇.extBut b o (fun q => by rw [show b = C from q, hCg] at e; cases e) (hs₁.extBut _ _ (ne e) (st.2 _ _ e))⟩ hn₇ ⟨_, hv, by simp⟩
      fun b o e hb hw => hs₇.extBut b o hb (hs₁.extBut _ _ (by simpa using hw) e)
  done := fun s K P E st h => wpAny_bind (wpAny_pyNext_list_end hh st.1 (ht.at fun o e => st.2 _ _ e) (by simp) fun h' he => h h' s.toks fun b o e hb => he b o (by simpa using hb) e)
  flds := fun i h st b hb o e => by
    refine hide (fun P9 toP9 => ?_)
    obtain ⟨o', ho', _, hd⟩ := st.1
    (refine toP9 ?_; clear toP9 P9)
    rw [List.mem_singleton.mp hb, ho'] at e; cases e
    unfold isFields; rw [hd]
  hold := fun i h h' st kt kg => by
    refine hide (fun P9 toP9 => ?_)
    obtain ⟨o', ho', hc, hd⟩ := st.1
    (refine toP9 ?_; clear toP9 P9)
    exact ⟨⟨o', kt _ _ ho' (by unfold isFields; rw [hd]), hc, hd⟩, kg⟩
  offB := fun b hb => by rw [List.mem_singleton.mp hb]; exact hI
  self := fun i s Q E st hQ => wpAny_pyIter_listiter st.1 hQ
theorem nxt_enum {e it l : Addr} (hh : A.handled = none) (hkind : scope.kind = .function) (hx1 : scope.names.lookup x1 = some .local) (hx2 : scope.names.lookup x2 = some .local) (hxx : x1 ≠ x2)
    (hl : g.IsList l items.toArray) (n1 : e ≠ it) (n2 : e ≠ l) (n3 : it ≠ l) (g1 : g.get? e = none) (g2 : g.get? it = none) (c1 : e ≠ C) (c2 : it ≠ C) (hCg : g.get? C = none) :
    Nxt prog w A g e (.Tuple [.Name x1 p1, .Name x2 p2] tk tp) (compEnvC scope cl C env) [e, it] items.length (fun i h => (∃ old, IsEnum h e it i old) ∧ h.IsListIter it l i ∧ ∀ b o, g.get? b = some o → h.get? b = some o)
      (fun i mC => ∃ t v, items[i]? = some v ∧ mC x1 = some (.int (i : Int) t) ∧ mC x2 = some v) where
  item := fun i s K T P E mC hi st hC hK h => by
    have W := WalksT.enumerateD (Draws.list (prog := prog) (w := w) (A := A.in1) hh it l (Ne.symm n3) items.toArray) e n1 (by simp [n1, n2]) (by simp)
    have ne : ∀ {b o}, g.get? b = some o → b ∉ [e, it] := fun q hb => by
      rcases List.mem_cons.mp hb with rfl | hb
      · rw [g1] at q; cases q
      · rw [List.mem_singleton.mp hb, g2] at q; cases q
    have cne : C ∉ [e, it] := by simp [Ne.symm c1, Ne.symm c2]
    refine wpAny_bind (W.item i s _ E (by simpa using hi) ⟨st.1, st.2.1, hl.at fun o q => st.2.2 _ _ q⟩ fun T' vals h₁ tk₁ hPt _ hT hMid hk₁ => ?_)
    refine hide (fun P9 toP9 => ?_)
    obtain ⟨t, v, hv, rfl⟩ := hPt
    (refine toP9 ?_; clear toP9 P9)
    rw [hK]
    refine wpAny_bind (W.go _ tk tp i T' _ _ _ hMid fun h₂ hst₂ hk₂ => wpAny_bind ?_)
    have ht₂ : IsTup h₂ T' #[.int i t, v] := hT.at fun o q => hk₂ T' o (W.apart i T' h₁ hMid) q
    refine assign_Tuple_tuple hh ht₂ rfl rfl fun h₅ he => ?_
    have he' : ∀ b o, h₂.get? b = some o → h₅.get? b = some o := fun b o q => he b o (Nat.ne_of_lt (Heap.lt_size q)) q
    have k₅ : ∀ b o, b ∉ [e, it] → s.heap.get? b = some o → h₅.get? b = some o := fun b o hb q => he' _ _ (hk₂ b o hb (hk₁ b o hb q))
    refine assignInOrder_cons (wpAny_assign_Name (wpAny_storeName_local (lookup_relabel_local hx1) (hC.at' fun o q => k₅ _ o cne q) (fun h₆ hn₆ hs₆ => ?_) (by simp [compEnvC, relabel, hkind])))
    refine assignInOrder_cons (wpAny_assign_Name (wpAny_storeName_local (lookup_relabel_local hx2) hn₆ (fun h₇ hn₇ hs₇ => ?_) (by simp [compEnvC, relabel, hkind])))
    refine assignInOrder_nil ?_
    have up : ∀ b o, b ≠ C → h₅.get? b = some o → h₇.get? b = some o := fun b o hb q => hs₇.extBut b o hb (hs₆.extBut b o hb q)
    refine hide (fun P9 toP9 => ?_)
    obtain ⟨⟨old, hE⟩, hL, _⟩ := hst₂
    obtain ⟨oi, hoi, ri⟩ := hL
    (refine toP9 ?_; clear toP9 P9)
    exact h h₇ _ _ ⟨⟨old, up _ _ c1 (he' _ _ hE)⟩, ⟨oi, up _ _ c2 (he' _ _ hoi), ri⟩, fun b o q => up b o (fun z => by rw [show b = C from z, hCg] at q; cases q) (k₅ b o (ne q) (st.2.2 _ _ q))⟩ hn₇ ⟨t, v, by simpa using hv, by simp [hxx], by simp⟩
      fun b o q hb hw => up b o hb (k₅ b o hw q)
  done := fun s K P E st h => by
    have W := WalksT.enumerateD (Draws.list (prog := prog) (w := w) (A := A.in1) hh it l (Ne.symm n3) items.toArray) e n1 (by simp [n1, n2]) (by simp)
    exact wpAny_bind (W.done s _ E ⟨by simpa using st.1, by simpa using st.2.1, hl.at fun o q => st.2.2 _ _ q⟩ fun h' tk' hk => h h' tk' fun b o q hb => hk b o hb q)
  flds := fun i h st b hb o q => by
    rcases List.mem_cons.mp hb with rfl | hb
    · obtain ⟨old, hE⟩ := st.1
      have hE' : h.get? b = some _ := hE
      rw [q] at hE'; cases hE'; rfl
    · obtain ⟨o', ho', _, hd⟩ := st.2.1
      rw [List.mem_singleton.mp hb, ho'] at q; cases q
      unfold isFields; rw [hd]
  hold := fun i h h' st kt kg => by
    refine hide (fun P9 toP9 => ?_)
    obtain ⟨⟨old, hE⟩, ⟨o', ho', hc, hd⟩, _⟩ := st
    (refine toP9 ?_; clear toP9 P9)
    have hE' : h.get? e = some _ := hE
    exact ⟨⟨old, kt _ _ hE' rfl⟩, ⟨o', kt _ _ ho' (by unfold isFields; rw [hd]), hc, hd⟩, kg⟩
  offB := fun b hb => by
    rcases List.mem_cons.mp hb with rfl | hb
    · exact g1
    · rw [List.mem_singleton.mp hb]; exact g2
  self := fun i s Q E st hQ => let ⟨_, hE⟩ := st.1; wpAny_pyIter_enum hE hQ
end
end
section
variable {prog : Program} {w : World} {A : Around} {s : Shared} {env : Env} {g : Heap} {L : Addr} {m : Str → Option Value} {scope : Scope} {cl : List (Str × Addr)} {tx : Addr} {items : List Value} {x x1 x2 : Str} {p1 p2 tp : Pos} {tk0} {elt : PySem.Expr} {ifs : List PySem.Expr}
theorem no_new {g h : Heap} {L : Addr} {m : Str → Option Value} (F : Fr g L h m) : g.get? h.objs.size = none := by
  cases q : g.get? h.objs.size with
  | none => rfl
  | some o => exact absurd (Heap.lt_size (F.keep _ _ q)) (Nat.lt_irrefl _)
theorem compAt_tuple {J : Nat → List Value → Prop} (hh : A.handled = none) (F : Fr g L s.heap m) (ht : g.IsTuple tx items.toArray) (hits : ∀ (i : Nat) (v : Value), items[i]? = some v → ∃ (t : Addr) (v0 v1 : Value), v = .ref t ∧ g.IsTuple t #[v0, v1])
    (hkind : scope.kind = .function) (hx1 : scope.names.lookup x1 = some .local) (hx2 : scope.names.lookup x2 = some .local) (hxx : x1 ≠ x2) (hn : items.length ≤ sizeLine) (j0 : J 0 [])
    (el : ∀ C D i h tk ys mC (R : Value → Shared → Prop), i < items.length → ys.length ≤ i → (∃ t v0 v1, items[i]? = some (.ref t) ∧ g.IsTuple t #[v0, v1] ∧ mC x1 = some v0 ∧ mC x2 = some v1) → Fr g L h m → h.Ns C mC → h.get? D = some (LCg.lst ys) →
      D ≠ C → L ≠ C → L ≠ D → g.get? C = none → g.get? D = none → (∀ b o, s.heap.get? b = some o → b ≠ L → h.get? b = some o) → s.heap.get? C = none → s.heap.get? D = none → J i ys →
      wpAny (model prog w) A (eval elt (compEnvC scope cl C env)) (ElH g L m C D h s ys (fun ys' h' => J (i + 1) ys' ∧ ∀ b o, s.heap.get? b = some o → b ≠ L → h'.get? b = some o)) R { s with heap := h, toks := tk }) :
    CompAt prog w A g L env scope cl (.Tuple [.Name x1 p1, .Name x2 p2] tk0 tp) elt [] m s.heap items.length J (.ref s.heap.objs.size) { s with heap := s.heap.push { cls := .type "tuple_iterator", data := .fields #[.ref tx, .int 0 0] } } := by
  have up : ∀ b o, s.heap.get? b = some o → (s.heap.push { cls := .type "tuple_iterator", data := .fields #[.ref tx, .int 0 0] }).get? b = some o := fun b o e => Heap.get?_push_of_some _ e
  refine ⟨s.heap.objs.size, [s.heap.objs.size], _, rfl, F.push _, ⟨⟨_, Heap.get?_push_size _ rfl, rfl, rfl⟩, fun b o e => up b o (F.keep b o e)⟩, fun b o e _ => up b o e, fun b hb => by rw [List.mem_singleton.mp hb]; exact Heap.get?_none_of_le (Nat.le_refl _),
    fun q => absurd F.ns.lt (by rw [List.mem_singleton.mp q]; exact Nat.lt_irrefl _), ?_, hn, j0, fun C hC => ⟨_, nxt_tuple hh hkind hx1 hx2 hxx ht (no_new F) (fun q => ?_) ?_ hits, ?_⟩⟩
  · rintro h h' ⟨⟨o, e, r⟩, k⟩ kk
    exact ⟨⟨o, kk _ _ e, r⟩, fun b o e => kk _ _ (k b o e)⟩
  · have z := Heap.get?_push_size s.heap (o := { cls := .type "tuple_iterator", data := .fields #[.ref tx, .int 0 0] }) rfl
    have hC' : (s.heap.push { cls := .type "tuple_iterator", data := .fields #[.ref tx, .int 0 0] }).get? C = none := hC
    rw [q, hC'] at z; cases z
  · cases q : g.get? C with
    | none => rfl
    | some o =>
      have hC' : (s.heap.push { cls := .type "tuple_iterator", data := .fields #[.ref tx, .int 0 0] }).get? C = none := hC
      rw [up _ _ (F.keep _ _ q)] at hC'; cases hC'
  · intro D i h tk ys mC R hi hy hB F' hC' hD' n1 n2 n3 n4 n5 hk hC₀ hD₀ hJ
    refine wpAny_tests_nil ?_
    simp only [if_true]
    exact el C D i h tk ys mC R hi hy hB F' hC' hD' n1 n2 n3 n4 n5 hk hC₀ hD₀ hJ
end
def uniqAcc : List Int → List Int → List Int
  | acc, [] => acc
  | acc, g :: gs => if g ∈ acc then uniqAcc acc gs else uniqAcc (acc ++ [g]) gs
def uniq (gs : List Int) : List Int := uniqAcc [] gs
section
variable {prog : Program} {w : World} {A : Around} {E : Value → Shared → Prop} {s : Shared} {env : Env} {g : Heap} {L : Addr}
theorem ListComp_F {elt iter target : PySem.Expr} {ifs : List PySem.Expr} {scope : Scope} {cl : List (Str × Addr)} {pos : Pos} {Q : Value → Shared → Prop} {m : Str → Option Value} (F : Fr g L s.heap m) (n : Nat) (J : Nat → List Value → Prop)
    (hclos : closureFor scope env = pure cl) (hcell : ∀ y ∈ scope.names, y.2 ≠ .cell) (hkind : scope.kind = .function)
    (hnames : ∀ y ∈ scope.names, y.2 = .local → scope.names.lookup y.1 = some .local)
    (h : wpAny (model prog w) A (eval iter env) (fun xv s₁ => wpAny (model prog w) A (pyIter xv) (fun it s₂ => CompAt prog w A g L env scope cl target elt ifs m s.heap n J it s₂ ∧
      ∀ D h' tk ys, Fr g L h' m → h'.get? D = some (LCg.lst ys) → g.get? D = none → D ≠ L → s.heap.get? D = none → (∀ b o, s.heap.get? b = some o → b ≠ L → h'.get? b = some o) → J n ys → Q (.ref D) { s₂ with heap := h', toks := tk }) E s₁) E s)
    (hs : ∀ x, foldedSetIterable iter env x = pure x := by intro _; rfl) :
    wpAny (model prog w) A (eval (.ListComp elt [⟨target, iter, ifs, 0⟩] scope pos) env) Q E s :=
  ListComp_H J hclos hcell hkind hnames h hs
variable {m : Str → Option Value} {scope : Scope} {cl : List (Str × Addr)} {tx : Addr} {items : List Value} {x1 x2 : Str} {p1 p2 p3 tp : Pos} {tk0}
/-- the second figures of a tuple of pairs -/
theorem col1_comp {vals : List Value} (hh : A.handled = none) (F : Fr g L s.heap m) (ht : g.IsTuple tx items.toArray) (hits : ∀ (i : Nat) (v : Value), items[i]? = some v → ∃ (t : Addr) (v0 v1 : Value), v = .ref t ∧ g.IsTuple t #[v0, v1] ∧ vals[i]? = some v1)
    (hkind : scope.kind = .function) (hx1 : scope.names.lookup x1 = some .local) (hx2 : scope.names.lookup x2 = some .local) (hxx : x1 ≠ x2) (hd : (x2 == ("__debug__" : Str)) = false) (hn : items.length ≤ sizeLine) :
    CompAt prog w A g L env scope cl (.Tuple [.Name x1 p1, .Name x2 p2] tk0 tp) (.Name x2 p3) [] m s.heap items.length (fun i ys => ys = vals.take i) (.ref s.heap.objs.size) { s with heap := s.heap.push { cls := .type "tuple_iterator", data := .fields #[.ref tx, .int 0 0] } } := by
  refine compAt_tuple hh F ht (fun i v e => let ⟨t, v0, v1, e1, e2, _⟩ := hits i v e; ⟨t, v0, v1, e1, e2⟩) hkind hx1 hx2 hxx hn rfl ?_
  rintro C D i h tk ys mC R hi hy ⟨t, v0, v1, hv, htt, -, hm2⟩ F' hC hD n1 n2 n3 n4 n5 hk hC₀ hD₀ rfl
  refine ldVarK hC hm2 ⟨h, tk, mC, rfl, F', hC, hD, fun _ _ e _ => e, ?_, hk⟩ (by simp [compEnvC, relabel, hkind]) (lookup_relabel_local hx2) hd
  refine hide (fun P9 toP9 => ?_)
  obtain ⟨t', v0', v1', e1, e2, e3⟩ := hits i _ hv
  (refine toP9 ?_; clear toP9 P9)
  cases e1
  refine hide (fun P9 toP9 => ?_)
  obtain ⟨o, ho, hc, n, hdd⟩ := htt
  obtain ⟨o', ho', hc', n', hdd'⟩ := e2
  (refine toP9 ?_; clear toP9 P9)
  rw [ho] at ho'; cases ho'
  rw [hdd] at hdd'
  cases hdd'
  rw [List.take_add_one, e3]
  rfl
end
local macro_rules | `(tactic| k_all) => `(tactic| first | assumption | exact List.forall_mem_nil _ | (refine' List.forall_mem_cons.mpr ⟨?a, ?b⟩; (case a => k_ne); (case b => k_all)))
section
variable {prog : Program} {w : World} {A : Around} {s : Shared} {env : Env} {g H : Heap} {L e : Addr} {m : Str → Option Value} {scope : Scope} {cl : List (Str × Addr)} {items : List Value} {x1 x2 : Str} {p1 p2 tp : Pos} {tk0} {elt : PySem.Expr} {ifs : List PySem.Expr}
theorem enum_iter {E : Value → Shared → Prop} {Q : Value → Shared → Prop} (he : EnumFor g L H s.heap e items) (h : Q (.ref e) s) : wpAny (model prog w) A (pyIter (.ref e)) Q E s := let ⟨_, _, hE, _⟩ := he; wpAny_pyIter_enum hE h
theorem compAt_enum {J : Nat → List Value → Prop} (hh : A.handled = none) (F : Fr g L s.heap m) (he : EnumFor g L H s.heap e items) (hH : ∀ b o, H.get? b = some o → b ≠ L → s.heap.get? b = some o)
    (hkind : scope.kind = .function) (hx1 : scope.names.lookup x1 = some .local) (hx2 : scope.names.lookup x2 = some .local) (hxx : x1 ≠ x2) (hn : items.length ≤ sizeLine) (j0 : J 0 [])
    (el : ∀ C D i h tk ys mC (R : Value → Shared → Prop), i < items.length → ys.length ≤ i → (∃ t v, items[i]? = some v ∧ mC x1 = some (.int (i : Int) t) ∧ mC x2 = some v) → Fr g L h m → h.Ns C mC → h.get? D = some (LCg.lst ys) →
      D ≠ C → L ≠ C → L ≠ D → g.get? C = none → g.get? D = none → (∀ b o, H.get? b = some o → b ≠ L → h.get? b = some o) → H.get? C = none → H.get? D = none → J i ys →
      wpAny (model prog w) A (forIn ifs true fun c r => if r = true then do let ok ← isTrue c (compEnvC scope cl C env) (eval c (compEnvC scope cl C env)); pure (ForInStep.yield ok) else pure (ForInStep.yield r)) (fun ok s₃ =>
          if ok = true then wpAny (model prog w) A (eval elt (compEnvC scope cl C env)) (ElH g L m C D h s ys (fun ys' h' => J (i + 1) ys' ∧ ∀ b o, H.get? b = some o → b ≠ L → h'.get? b = some o)) R s₃
          else TsH g L m C D h s ys (fun ys' h' => J (i + 1) ys' ∧ ∀ b o, H.get? b = some o → b ≠ L → h'.get? b = some o) s₃) R { s with heap := h, toks := tk }) :
    CompAt prog w A g L env scope cl (.Tuple [.Name x1 p1, .Name x2 p2] tk0 tp) elt ifs m H items.length J (.ref e) s := by
  refine hide (fun P9 toP9 => ?_)
  obtain ⟨it, l, hE, hit, hl, n1, n2, n3, n4, n5, n6, g1, g2, H1, H2⟩ := he
  (refine toP9 ?_; clear toP9 P9)
  refine ⟨e, [e, it], _, rfl, F, ⟨⟨_, hE⟩, hit, F.keep⟩, hH, fun b hb => ?_, by simp [Ne.symm n4, Ne.symm n5], ?_, hn, j0, fun C hC => ⟨_, nxt_enum hh hkind hx1 hx2 hxx hl n1 n2 n3 g1 g2 (fun q => ?_) (fun q => ?_) ?_, ?_⟩⟩
  · rcases List.mem_cons.mp hb with rfl | hb
    · exact H1
    · rw [List.mem_singleton.mp hb]; exact H2
  · rintro h h' ⟨⟨old, a⟩, ⟨o, ho, r⟩, k⟩ kk
    exact ⟨⟨old, kk _ _ a⟩, ⟨o, kk _ _ ho, r⟩, fun b o e => kk _ _ (k b o e)⟩
  · rw [← q] at hC
    have hE' : s.heap.get? e = some _ := hE
    rw [hC] at hE'; cases hE'
  · obtain ⟨o, ho, _⟩ := hit
    rw [q, hC] at ho; cases ho
  · cases q : g.get? C with
    | none => rfl
    | some o => have := F.keep _ _ q; rw [hC] at this; cases this
  · exact fun D i h tk ys mC R hi hy hB F' hC' hD' n1 n2 n3 n4 n5 hk hC₀ hD₀ hJ => el C D i h tk ys mC R hi hy hB F' hC' hD' n1 n2 n3 n4 n5 hk hC₀ hD₀ hJ
end
theorem ints_get {vs : List Value} {gs : List Int} (h : IntsAre vs gs) : ∀ (i : Nat) (v : Value), vs[i]? = some v → ∃ (n : Int) (t : Tok), v = .int n t ∧ gs[i]? = some n := by
  induction h with
  | nil => intro i v e; simp at e
  | cons n t _ ih =>
    intro i v e
    cases i with
    | zero => simp at e; exact ⟨n, t, e.symm, rfl⟩
    | succ i => simpa using ih i v (by simpa using e)
theorem keepAll_of {g h h' : Heap} {L : Addr} {m' : Str → Option Value} {D news : List (Addr × Obj)} (hD : ∀ b o, h.get? b = some o → b ≠ L → b ∉ ([] : List (Addr × Obj)).map Prod.fst → g.get? b = some o ∨ (b, o) ∈ D)
    (F' : Fr g L h' m') (N' : News g L h' news) (hs : ∀ p ∈ D, p ∈ news) : ∀ b o, h.get? b = some o → b ≠ L → h'.get? b = some o := fun b o e hb => by
  rcases hD b o e hb (fun q => nomatch q) with q | q
  · exact F'.keep _ _ q
  · exact (N' _ (hs _ q)).1
theorem keepIt_all {g h h' : Heap} {L : Addr} {m : Str → Option Value} (F : Fr g L h m) (k : ∀ b o, h.get? b = some o → b ≠ L → h'.get? b = some o) : KeepIt h h' := fun b o e hf => k b o e fun q => by rw [ns_fields F o (q ▸ e)] at hf; cases hf
theorem uniqAcc_snoc (x : Int) : ∀ (l acc : List Int), uniqAcc acc (l ++ [x]) = if x ∈ acc ∨ x ∈ l then uniqAcc acc l else uniqAcc acc l ++ [x]
  | [], acc => by simp [uniqAcc]
  | y :: l, acc => by
    rw [List.cons_append]
    unfold uniqAcc
    by_cases hy : y ∈ acc
    · rw [if_pos hy, if_pos hy, uniqAcc_snoc x l acc]
      by_cases e : x = y
      · subst e; simp [hy]
      · simp [e]
    · rw [if_neg hy, if_neg hy, uniqAcc_snoc x l (acc ++ [y])]
      by_cases e : x = y
      · subst e; simp
      · simp [e]
theorem uniq_in {l : List Int} {x : Int} (h : (l.any fun y => y == x) = true) : uniq (l ++ [x]) = uniq l := by
  unfold uniq; rw [uniqAcc_snoc, if_pos]
  refine hide (fun P9 toP9 => ?_)
  obtain ⟨y, hy, e⟩ := List.any_eq_true.mp h
  (refine toP9 ?_; clear toP9 P9)
  exact .inr ((beq_iff_eq.mp e) ▸ hy)
theorem uniq_off {l : List Int} {x : Int} (h : (l.any fun y => y == x) = false) : uniq (l ++ [x]) = uniq l ++ [x] := by
  unfold uniq; rw [uniqAcc_snoc, if_neg]
  rintro (q | q)
  · cases q
  · have := List.any_eq_false.mp h x q
    simp at this
theorem ints_snoc {vs : List Value} {gs : List Int} (h : IntsAre vs gs) (n : Int) (t : Tok) : IntsAre (vs ++ [.int n t]) (gs ++ [n]) := by
  induction h with
  | nil => exact .cons _ _ .nil
  | cons a b _ ih => exact .cons a b ih
theorem ints_len {vs : List Value} {gs : List Int} (h : IntsAre vs gs) : vs.length = gs.length := by
  induction h with
  | nil => rfl
  | cons a b _ ih => simp [ih]
theorem cell_news {g h : Heap} {L c : Addr} {o : Obj} {v : Option Value} {news : List (Addr × Obj)} (N : News g L h news) (hm : (c, o) ∈ news) (hd : o.data = .cell v) : h.IsCell c v := ⟨o, (N _ hm).1, hd⟩
set_option maxRecDepth 100000 in
set_option maxHeartbeats 1000000 in
theorem unlike_ok {w : World} {mean : ExcName → Option Value} {mg mb : Str → Option Value} {h₀ : Heap} {s : Shared} {dp un : Nat} {gd : Option (List Code)} {fr : Option (List Env)} {l : Addr} {vs : List Value} {gs : List Int} {Q E : Value → Shared → Prop}
    (X : (Mine.hd.heap_1 w.params).In h₀) (T : Top Mine.vw (looseW Mine.vw []) mean mg mb h₀) (st : h₀.StaysIn s.heap)
    (hd : dp + 1 < recursionLimit) (hu : un + 100 < cLine) (hl : s.heap.IsList l vs.toArray) (hi : IntsAre vs gs) (h3 : vs.length ≤ 3)
    (hQ : ∀ r vs h' tk', s.heap.StaysIn h' → h'.IsList r (List.toArray vs) → IntsAre vs (uniq gs) → Q (.ref r) { s with heap := h', toks := tk' }) :
    wpAny (model PySem.Challenge.pw_xm0585_01 w) (arnd dp un gd fr) (call (.ref 206) [.ref l]) Q E s := by
  refine' enterC (news := []) X T st (fun _ h => nomatch h) (fun _ h => nomatch h) ?ho ?hcd ?hroom ?hbind ?hkind ?hnd ?_ ?c3 ?c4 ?c5
  case ho => k_dflt k_is
  case hcd => k_dflt k_is
  case hroom => ktr_room
  case hbind => exact BindsTo.of_eq rfl
  case hkind => exact rfl
  case hnd => decide +kernel
  case c3 => exact rfl
  case c4 => exact rfl
  case c5 => exact rfl
  intro g L' h₁ tk cells st1 st2 keep F' N' Y' X' T' nL l1 d' u' fr' hd' hu'
  change Fr _ _ _ (bindL _ [(_, _)] _) at F'
  have k : ∀ b o, s.heap.get? b = some o → g.get? b = some o := fun b o e => keep b o e (fun h => nomatch h)
  replace hl := hl.at (k l)
  k_lt l1
  (have hY := CellsAre.one Y'; obtain ⟨o9, hE9, d9⟩ := hY; subst hE9; clear Y'); (change o9.data = .cell (some (.ref l)) at d9)
  (try simp only [List.cons_append, List.nil_append] at N')
  (try dsimp only)
  (repeat' ((fail_if_success (with_reducible refine stop_at (by first | exact .loop | exact .iter | exact .comp | exact .item) ?_)); first | (k_unfold; (try dsimp only)) | (k_end; wrow_close) | ((first | ((with_reducible show wpAny _ _ (call (Value.type _) [Value.ref _]) _ _ _); refine enum_call (by k_asm) (by k_asm) (by assumption) ?_; k_whole; intro hzz9 ezz9 Fzz9 Nzz9 hezz9; (try k_sweep)) | ((with_reducible show wpAny _ _ (spliced _) _ _ _); refine' args_plain ?qSS ?qFF ?qkk ?qPP ?_; (case qSS => rfl); (case qFF => k_asm); (case qkk => rfl); (case qPP => repeat' first | exact Plain.nil | (apply Plain.name; exact rfl; exact rfl; decide) | apply Plain.none | apply Plain.bool | apply Plain.int | apply Plain.str); k_whole; (try dsimp only [List.cons_append, List.nil_append])) | walk1) <;> first | (with_reducible show wpAny _ _ (subscriptTail _ (PySem.Expr.Slice _ _ _ _) _ _) _ _ _) | (try dsimp only)) | (dsimp only; walk1) | (leave1; try dsimp only) | fail "no step"))
  (rename Fr _ _ _ _ => F)
  have c9 := N' (L' + 1, o9) (.head _)
  refine hide (fun P9 toP9 => ?_)
  obtain ⟨D0, N0, -, hD0⟩ := refresh F News.nil
  (refine toP9 ?_; clear toP9 P9)
  have N0' : News g L' h₁ ((L' + 1, o9) :: D0) := fun p hp => (List.mem_cons.mp hp).elim (fun q => q ▸ c9) (N0 p)
  clear N' N0
  have k0 : ∀ h' m' news', Fr g L' h' m' → News g L' h' news' → (∀ p ∈ D0, p ∈ news') → ∀ b o, h₁.get? b = some o → b ≠ L' → h'.get? b = some o := fun _ _ _ a b c => keepAll_of hD0 a b c
  clear hD0
  refine ListComp_F F vs.length (fun i ys => IntsAre ys (uniq (gs.take i))) (by with_unfolding_all rfl) (by decide) (by rfl) (by decide) ?_
  (repeat' ((fail_if_success (with_reducible refine stop_at (by first | exact .loop | exact .iter | exact .comp | exact .item) ?_)); first | (k_unfold; (try dsimp only)) | (k_end; wrow_close) | ((first | ((with_reducible show wpAny _ _ (call (Value.type _) [Value.ref _]) _ _ _); refine enum_call (by k_asm) (by k_asm) (by assumption) ?_; k_whole; intro hzz9 ezz9 Fzz9 Nzz9 hezz9; (try k_sweep)) | ((with_reducible show wpAny _ _ (spliced _) _ _ _); refine' args_plain ?qSS ?qFF ?qkk ?qPP ?_; (case qSS => rfl); (case qFF => k_asm); (case qkk => rfl); (case qPP => repeat' first | exact Plain.nil | (apply Plain.name; exact rfl; exact rfl; decide) | apply Plain.none | apply Plain.bool | apply Plain.int | apply Plain.str); k_whole; (try dsimp only [List.cons_append, List.nil_append])) | walk1) <;> first | (with_reducible show wpAny _ _ (subscriptTail _ (PySem.Expr.Slice _ _ _ _) _ _) _ _ _) | (try dsimp only)) | (dsimp only; walk1) | (leave1; try dsimp only) | fail "no step"))
  rename EnumFor _ _ _ _ _ _ => hE; rename Fr _ _ _ _ => F₁; rename News _ _ _ _ => N₁
  refine enum_iter hE ⟨compAt_enum rfl F₁ hE (k0 _ _ _ F₁ N₁ (fun p hp => .tail _ hp)) rfl rfl rfl (by decide) (Nat.le_trans h3 (by decide)) .nil ?_, ?_⟩
  · rintro C D i h tk ys mC R hi' hy ⟨tt, v, hv, hm1, hm2⟩ F₂ hC hD n1 n2 n3 n4 n5 hk hC₀ hD₀ hJ
    refine hide (fun P9 toP9 => ?_)
    obtain ⟨n, tn, rfl, hg⟩ := ints_get hi i _ hv
    obtain ⟨oC, hoC, nC⟩ := LCg.ns_obj hC
    (refine toP9 ?_; clear toP9 P9)
    refine wpAny_tests_one ?_
    refine hide (fun P9 toP9 => ?_)
    obtain ⟨D1, N1, -, hD1⟩ := refresh F₂ News.nil
    (refine toP9 ?_; clear toP9 P9)
    have N₂ : News g L' h ((C, oC) :: (D, LCg.lst ys) :: (L' + 1, o9) :: D1) := by
      intro p hp
      rcases List.mem_cons.mp hp with rfl | hp
      · exact ⟨hoC, Ne.symm n2, n4⟩
      · rcases List.mem_cons.mp hp with rfl | hp
        · exact ⟨hD, Ne.symm n3, n5⟩
        · rcases List.mem_cons.mp hp with rfl | hp
          · exact ⟨hk _ _ c9.1 c9.2.1, c9.2⟩
          · exact N1 p hp
    have kf : ∀ h' m' news', Fr g L' h' m' → News g L' h' news' → (∀ p ∈ D1, p ∈ news') → ∀ b o, h.get? b = some o → b ≠ L' → h'.get? b = some o := fun _ _ _ a b c => keepAll_of hD1 a b c
    have ki := fun h' => keepIt_all (h' := h') F₂
    have nxt : gs.take (i + 1) = gs.take i ++ [n] := by rw [List.take_add_one, hg]; rfl
    clear hD1 N1
    clear F₁ N₁
    (repeat' ((fail_if_success (with_reducible refine stop_at (by first | exact .loop | exact .iter | exact .comp | exact .item) ?_)); first | (k_unfold; (try dsimp only)) | (k_end; wrow_close) | ((first | ((with_reducible show wpAny _ _ (call (Value.type _) [Value.ref _]) _ _ _); refine enum_call (by k_asm) (by k_asm) (by assumption) ?_; k_whole; intro hzz9 ezz9 Fzz9 Nzz9 hezz9; (try k_sweep)) | ((with_reducible show wpAny _ _ (spliced _) _ _ _); refine' args_plain ?qSS ?qFF ?qkk ?qPP ?_; (case qSS => rfl); (case qFF => k_asm); (case qkk => rfl); (case qPP => repeat' first | exact Plain.nil | (apply Plain.name; exact rfl; exact rfl; decide) | apply Plain.none | apply Plain.bool | apply Plain.int | apply Plain.str); k_whole; (try dsimp only [List.cons_append, List.nil_append])) | walk1) <;> first | (with_reducible show wpAny _ _ (subscriptTail _ (PySem.Expr.Slice _ _ _ _) _ _) _ _ _) | (try dsimp only)) | (dsimp only; walk1) | (leave1; try dsimp only) | fail "no step"))
    all_goals (rename Fr _ _ _ _ => F₄; rename News _ _ _ _ => N₄; rename (List.any _ _ = _) => q)
    all_goals (have kk := kf _ _ _ F₄ N₄ (fun p hp => .tail _ (.tail _ (.tail _ (.tail _ hp)))))
    all_goals (simp only [Int.toNat_natCast] at q)
    · refine ⟨_, _, mC, rfl, F₄, nC.ns (N₄.get (.tail _ (.head _))), N₄.get (.tail _ (.tail _ (.head _))), ki _ kk, ?_, fun b o e hb => kk b o (hk b o e hb) hb⟩
      rw [nxt, uniq_in q]
      exact hJ
    · refine ⟨_, _, mC, rfl, F₄, nC.ns (N₄.get (.tail _ (.head _))), N₄.get (.tail _ (.tail _ (.head _))), ki _ kk, ?_, fun b o e hb => kk b o (hk b o e hb) hb⟩
      rw [nxt, uniq_off q]
      exact ints_snoc hJ _ _
  · intro D h3' tk3 ys F₃ hD e1 e2 e3 e4 hJ
    have N₃ : News g L' h3' [(D, LCg.lst ys)] := fun p hp => by rw [List.mem_singleton.mp hp]; exact ⟨hD, e2, e1⟩
    rw [ints_len hi, List.take_length] at hJ
    clear F₁ N₁ hE
    (try dsimp only)
    (repeat' ((fail_if_success (with_reducible refine stop_at (by first | exact .loop | exact .iter | exact .comp | exact .item) ?_)); first | (k_unfold; (try dsimp only)) | (k_end; wrow_close) | ((first | ((with_reducible show wpAny _ _ (call (Value.type _) [Value.ref _]) _ _ _); refine enum_call (by k_asm) (by k_asm) (by assumption) ?_; k_whole; intro hzz9 ezz9 Fzz9 Nzz9 hezz9; (try k_sweep)) | ((with_reducible show wpAny _ _ (spliced _) _ _ _); refine' args_plain ?qSS ?qFF ?qkk ?qPP ?_; (case qSS => rfl); (case qFF => k_asm); (case qkk => rfl); (case qPP => repeat' first | exact Plain.nil | (apply Plain.name; exact rfl; exact rfl; decide) | apply Plain.none | apply Plain.bool | apply Plain.int | apply Plain.str); k_whole; (try dsimp only [List.cons_append, List.nil_append])) | walk1) <;> first | (with_reducible show wpAny _ _ (subscriptTail _ (PySem.Expr.Slice _ _ _ _) _ _) _ _ _) | (try dsimp only)) | (dsimp only; walk1) | (leave1; try dsimp only) | fail "no step"))
    (try dsimp only)
    rename Fr _ _ _ _ => F₄; rename News _ _ _ _ => N₄
    exact hQ _ _ _ _ (fun b o e => F₄.keep b o (k b o e)) ⟨_, N₄.get (.head _), rfl, _, rfl⟩ hJ
section
variable {prog : Program} {w : World} {A : Around} {E : Value → Shared → Prop} {s : Shared} {env : Env} {g : Heap}
/-- a loop over a list that is no part of the base -/
theorem list_H {Q : Flow → Shared → Prop} {x : Str} {px : Pos} {body : List Stmt} {l : Addr} {vs : List Value} {m : Str → Option Value} (J : Nat → (Str → Option Value) → Heap → Prop)
    (hh : A.handled = none) (hl : s.heap.IsList l vs.toArray)
    (hx : env.kindOf x = some .local) (hp : (env.scope.kind == .class || (env.scope.kind == .module && env.locals != env.globals)) = false)
    (F : Fr g env.locals s.heap m) (j0 : J 0 m s.heap) (stab : ∀ i m h h', Fr g env.locals h m → J i m h → KeepOff s.heap env.locals h h' → J i m h') (hJl : ∀ i m h, J i m h → h.IsList l vs.toArray)
    (step : ∀ (i : Nat) v m₁ h tk, vs[i]? = some v → J i m₁ h → Fr g env.locals h (fun y => if y = x then some v else m₁ y) →
      wpAny (model prog w) A (execs body env) (TurnH g env.locals h s (J (i + 1)) Q) E { s with heap := h, toks := tk })
    (done : ∀ m' h' tk, J vs.length m' h' → Fr g env.locals h' m' → Q .next { s with heap := h', toks := tk })
    (hE : PassesOwn (model prog w) A env E := by passes_own) :
    wpAny (model prog w) A (pyIter (.ref l)) (fun it s₂ => codeAny (model prog w) A (.forLoop (.Name x px) it body [] env) (fun r s' => match r with | .ok f => Q f s' | .error e => cameBackBy (model prog w) A env E e s') s₂) E s := by
  refine wpAny_pyIter_list hl ?_
  have hlt : env.locals < s.heap.objs.size := F.ns.lt
  have hlI : l ≠ s.heap.objs.size := by obtain ⟨o, ho, _⟩ := hl; exact Nat.ne_of_lt (Heap.lt_size ho)
  have hI : g.get? s.heap.objs.size = none := by
    cases q : g.get? s.heap.objs.size with
    | none => rfl
    | some o => exact absurd (Heap.lt_size (F.keep _ _ q)) (Nat.lt_irrefl _)
  have hIH : s.heap.get? s.heap.objs.size = none := Heap.get?_none_of_le (Nat.le_refl _)
  have W := Walks.list (prog := prog) (w := w) (A := A) hh s.heap.objs.size l hlI vs.toArray
  have hLI : env.locals ≠ s.heap.objs.size := Nat.ne_of_lt hlt
  have hfl : ∀ i (h : Heap), (h.IsListIter s.heap.objs.size l i ∧ h.IsList l vs.toArray) → ∀ o, h.get? s.heap.objs.size = some o → isFields o = true := by
    rintro i h ⟨⟨o2, ho2, _, hd2⟩, _⟩ o e
    rw [ho2] at e; cases e
    unfold isFields; rw [hd2]
  have z := Heap.get?_push_size s.heap (o := { cls := .type "list_iterator", data := .fields #[.ref l, .int 0 0] }) rfl
  refine codeAny_forLoop (R := fun r s' => match r with | .ok f => Q f s' | .error e => cameBackBy (model prog w) A env E e s')
    (fun k s' => ∃ h' tk m' i, s' = { s with heap := h', toks := tk } ∧ (h'.IsListIter s.heap.objs.size l i ∧ h'.IsList l vs.toArray) ∧ Fr g env.locals h' m' ∧ J i m' h' ∧ i ≤ vs.length ∧ k = vs.length + 1 - i) ?_ (vs.length + 1)
    ⟨_, s.toks, m, 0, rfl, ⟨⟨_, z, rfl, rfl⟩, hl.at fun o e => Heap.get?_push_of_some _ e⟩, F.push _, stab _ _ _ _ F j0 fields_push, Nat.zero_le _, rfl⟩
  rintro k s' ⟨h', tk, m', i, rfl, hst', F', hJ, hi, rfl⟩
  have nextF : ∀ h₁ : Heap, (∀ b o, b ∉ [s.heap.objs.size] → h'.get? b = some o → h₁.get? b = some o) → Fr g env.locals h₁ m' := fun h₁ hk₁ =>
    ⟨F'.ns.at' fun o e => hk₁ _ o (by simpa using hLI) e, fun b o e => hk₁ b o (fun q => by rw [List.mem_singleton.mp q, hI] at e; cases e) (F'.keep b o e), F'.above⟩
  have nw : ∀ b o, h'.get? b = some o → (isFields o = false ∨ s.heap.get? b = some o) → b ∉ [s.heap.objs.size] := fun b o e hf q => by
    rw [List.mem_singleton.mp q] at e hf
    exact hf.elim (fun hf => by rw [hfl i h' hst' o e] at hf; cases hf) fun hf => by rw [hIH] at hf; cases hf
  by_cases hlt : i < vs.length
  · refine W.item i _ _ _ (by simpa using hlt) hst' fun v h₁ tk₁ hP hst₁ hk₁ => ?_
    have F₁ := nextF h₁ hk₁
    refine wpAny_assign_Name (wpAny_storeName_local hx F₁.ns (fun h₂ hn₂ hs₂ => ?_) hp)
    have F₂ := F₁.set hn₂ hs₂
    have k₂ : KeepOff s.heap env.locals h' h₂ := fun b o e hb hf => (hs₂.2 b hb).trans (hk₁ b o (nw b o e hf) e)
    refine hide (fun P9 toP9 => ?_)
    obtain ⟨⟨oi, hoi, ri⟩, ⟨ol, hol, rl⟩⟩ := hst₁
    (refine toP9 ?_; clear toP9 P9)
    have hst₂ : h₂.IsListIter s.heap.objs.size l (i + 1) := ⟨oi, (hs₂.2 _ (Ne.symm hLI)).trans hoi, ri⟩
    refine wpAny_mono (wpAny_passesOwn hE (step i v m' h₂ _ (by simpa using hP) (stab _ _ _ _ F' hJ k₂) F₂)) (fun f s₃ h₃ => ?_) fun _ _ e => e
    have fin : StepH g env.locals h₂ s (J (i + 1)) s₃ → ∃ k', k' < vs.length + 1 - i ∧ ∃ h' tk m' i, s₃ = { s with heap := h', toks := tk } ∧ (h'.IsListIter s.heap.objs.size l i ∧ h'.IsList l vs.toArray) ∧ Fr g env.locals h' m' ∧ J i m' h' ∧ i ≤ vs.length ∧ k' = vs.length + 1 - i := by
      rintro ⟨h₃', tk₃, m₃, rfl, F₃, kt, hJ₃⟩
      obtain ⟨o2, ho2, hc2, hd2⟩ := hst₂
      exact ⟨vs.length + 1 - (i + 1), by omega, h₃', tk₃, m₃, i + 1, rfl, ⟨⟨o2, kt _ _ ho2 (by unfold isFields; rw [hd2]), hc2, hd2⟩, hJl _ _ _ hJ₃⟩, F₃, hJ₃, hlt, rfl⟩
    cases f with
    | ret v => exact h₃
    | brk => exact h₃
    | cont => exact fin h₃
    | next => exact fin h₃
  · have hin : i = vs.length := by omega
    subst hin
    refine W.done _ _ _ (by simpa using hst') fun h₁ tk₁ hk₁ => wpAny_execs_nil ?_
    exact done m' h₁ tk₁ (stab _ _ _ _ F' hJ fun b o e hb hf => hk₁ b o (nw b o e hf) e) (nextF h₁ hk₁)
end
theorem uniqAcc_mem {x : Int} : ∀ (l acc : List Int), x ∈ uniqAcc acc l → x ∈ acc ∨ x ∈ l
  | [], acc, h => .inl h
  | y :: l, acc, h => by
    unfold uniqAcc at h
    split at h
    · exact (uniqAcc_mem l acc h).imp id (.tail _)
    · rcases uniqAcc_mem l _ h with q | q
      · rcases List.mem_append.mp q with q | q
        · exact .inl q
        · exact .inr (by rw [List.mem_singleton.mp q]; exact .head _)
      · exact .inr (.tail _ q)
theorem uniq_mem {x : Int} {l : List Int} (h : x ∈ uniq l) : x ∈ l := (uniqAcc_mem l [] h).elim (fun q => nomatch q) id
theorem uniqAcc_len : ∀ (l acc : List Int), (uniqAcc acc l).length ≤ acc.length + l.length
  | [], acc => by simp [uniqAcc]
  | y :: l, acc => by
    unfold uniqAcc
    split
    · have := uniqAcc_len l acc; simp only [List.length_cons]; omega
    · have := uniqAcc_len l (acc ++ [y]); simp only [List.length_append, List.length_cons, List.length_nil] at this ⊢; omega
theorem uniq_len (l : List Int) : (uniq l).length ≤ l.length := by have := uniqAcc_len l []; simpa [uniq] using this
theorem keepMs_of {g h h' : Heap} {L : Addr} {m' : Str → Option Value} {ms D news : List (Addr × Obj)} (hD : ∀ b o, h.get? b = some o → b ≠ L → b ∉ ms.map Prod.fst → g.get? b = some o ∨ (b, o) ∈ D)
    (F' : Fr g L h' m') (N' : News g L h' news) (hs : ∀ p ∈ D, p ∈ news) : ∀ b o, h.get? b = some o → b ≠ L → b ∉ ms.map Prod.fst → h'.get? b = some o := fun b o e hb hm => by
  rcases hD b o e hb hm with q | q
  · exact F'.keep _ _ q
  · exact (N' _ (hs _ q)).1
theorem off_ms {D ms : List (Addr × Obj)} {a : Addr} (h : ∀ p ∈ D, p.1 ∉ ms.map Prod.fst) (ha : a ∈ ms.map Prod.fst) : ∀ p ∈ D, p.1 ≠ a := fun p hp q => h p hp (q ▸ ha)
theorem isl {h : Heap} {a : Addr} {vs : List Value} {n : Nat} (e : h.get? a = some (listOf (List.toArray vs) n)) : h.IsList a vs.toArray := ⟨_, e, rfl, _, rfl⟩
theorem mem_uniqAcc {x : Int} : ∀ (l acc : List Int), x ∈ acc ∨ x ∈ l → x ∈ uniqAcc acc l
  | [], acc, h => by unfold uniqAcc; exact h.elim id (fun q => nomatch q)
  | y :: l, acc, h => by
    unfold uniqAcc
    by_cases hy : y ∈ acc
    · rw [if_pos hy]
      refine mem_uniqAcc l acc (h.elim .inl fun q => ?_)
      rcases List.mem_cons.mp q with rfl | q
      · exact .inl hy
      · exact .inr q
    · rw [if_neg hy]
      refine mem_uniqAcc l _ (h.elim (fun q => .inl (List.mem_append_left _ q)) fun q => ?_)
      rcases List.mem_cons.mp q with rfl | q
      · exact .inl (List.mem_append_right _ (.head _))
      · exact .inr q
theorem uniq_any {l : List Int} {x : Int} : ((uniq l).any fun y => y == x) = l.any fun y => y == x := by
  rw [Bool.eq_iff_iff]
  simp only [List.any_eq_true]
  exact ⟨fun ⟨y, a, b⟩ => ⟨y, uniq_mem a, b⟩, fun ⟨y, a, b⟩ => ⟨y, mem_uniqAcc l [] (.inr a), b⟩⟩
/-- the figures among values that are figures or None -/
def optInts : List Value → List Int
  | .int g _ :: r => g :: optInts r
  | _ :: r => optInts r
  | [] => []
theorem optInts_int (g : Int) (t : Tok) : ∀ l : List Value, optInts (l ++ [.int g t]) = optInts l ++ [g]
  | [] => rfl
  | v :: l => by cases v <;> simp only [List.cons_append, optInts, optInts_int g t l]
theorem optInts_none : ∀ l : List Value, optInts (l ++ [.none]) = optInts l
  | [] => rfl
  | v :: l => by cases v <;> simp only [List.cons_append, optInts, optInts_none l]
theorem execs_mid2 {prog : Program} {w : World} {A : Around} {env : Env} {a b : Stmt} {rest : List Stmt} {Q : Flow → Shared → Prop} {E : Value → Shared → Prop} {s : Shared} (P : Shared → Prop)
    (h1 : wpAny (model prog w) A (exec a env) (fun f s' => f = .next ∧ wpAny (model prog w) A (exec b env) (fun f s'' => f = .next ∧ P s'') E s') E s)
    (h2 : ∀ s', P s' → wpAny (model prog w) A (execs rest env) Q E s') : wpAny (model prog w) A (execs (a :: b :: rest) env) Q E s :=
  wpAny_execs_cons (wpAny_mono h1 (fun f s' h => by
    refine hide (fun P9 toP9 => ?_)
    obtain ⟨e, h⟩ := h
    (refine toP9 ?_; clear toP9 P9)
    subst e
    exact wpAny_execs_cons (wpAny_mono h (fun f s'' h => by obtain ⟨e, h⟩ := h; subst e; exact h2 s'' h) (fun _ _ x => x))) (fun _ _ x => x))
theorem oneName {g h : Heap} {L r : Addr} {x : Obj} {l : List (Addr × Obj)} {G : Prop} (_ : News g L h ((r, x) :: l)) (k : ∀ R, R = r → G) : G := k r rfl
theorem seq_ne_ns1 {g h : Heap} {L a : Addr} {m : Str → Option Value} {o : Obj} (F : Fr g L h m) (e : h.get? a = some o) (hs : ∃ its n, o.data = .seq its n) : a ≠ L := by
  rintro rfl
  refine hide (fun P9 toP9 => ?_)
  obtain ⟨o', es, ep, e', hd', _⟩ := F.ns
  (refine toP9 ?_; clear toP9 P9)
  rw [e] at e'; cases e'
  refine hide (fun P9 toP9 => ?_)
  obtain ⟨its, n, q⟩ := hs
  (refine toP9 ?_; clear toP9 P9)
  rw [q] at hd'; cases hd'
theorem lst_keep1 {h h' : Heap} {a : Addr} {items : Array Value} (k : ∀ b o, h.get? b = some o → (isFields o = false ∧ ∃ its n, o.data = .seq its n) → h'.get? b = some o) (x : h.IsList a items) : h'.IsList a items := by
  refine hide (fun P9 toP9 => ?_)
  obtain ⟨o, ho, hc, n, hd⟩ := x
  (refine toP9 ?_; clear toP9 P9)
  exact ⟨o, k _ _ ho ⟨by unfold isFields; rw [hd], _, _, hd⟩, hc, n, hd⟩
/-- the goals as they were told, each once or more, None among them -/
def ToldAt (g : Heap) (L : Addr) (s : Shared) (gs : List Int) (s' : Shared) : Prop := ∃ (h : Heap) (tk : Nat) (D : Addr) (vs : List Value) (n : Nat) (m₀ : Str → Option Value), s' = { s with heap := h, toks := tk } ∧ Fr g L h (fun y => if y = Str.ofString "told" then some (.ref D) else m₀ y) ∧ h.get? D = some (listOf (List.toArray vs) n) ∧ D ≠ L ∧ g.get? D = none ∧
  (∀ v ∈ vs, v = .none ∨ ∃ g t, v = .int g t) ∧ optInts vs = gs ∧ vs.length ≤ 3
theorem opt_nil : ∀ v ∈ ([] : List Value), v = .none ∨ ∃ g t, v = .int g t := fun _ h => nomatch h
theorem opt_int {g : Int} {t : Tok} {vs : List Value} (h : ∀ v ∈ vs, v = .none ∨ ∃ g t, v = .int g t) : ∀ v ∈ (Value.int g t :: vs), v = .none ∨ ∃ g t, v = .int g t := List.forall_mem_cons.mpr ⟨.inr ⟨_, _, rfl⟩, h⟩
theorem opt_none {vs : List Value} (h : ∀ v ∈ vs, v = .none ∨ ∃ g t, v = .int g t) : ∀ v ∈ (Value.none :: vs), v = .none ∨ ∃ g t, v = .int g t := List.forall_mem_cons.mpr ⟨.inl rfl, h⟩
set_option maxRecDepth 100000 in
set_option maxHeartbeats 6000000 in
theorem succ_ok {w : World} {mean : ExcName → Option Value} {mg mb : Str → Option Value} {h₀ : Heap} {s : Shared} {dp un : Nat} {gd : Option (List Code)} {fr : Option (List Env)} {tm : Addr} {dv : Value} {gs : List Int} {Q E : Value → Shared → Prop}
    (X : (Mine.hd.heap_1 w.params).In h₀) (T : Top Mine.vw (looseW Mine.vw []) mean mg mb h₀) (st0 : h₀.StaysIn s.heap)
    (hd : dp + 1 < recursionLimit) (hu : un + 100 < cLine) (ht : TermAt s.heap (.ref tm) dv gs)
    (hQ : ∀ r vs h' tk', s.heap.StaysIn h' → h'.IsList r (List.toArray vs) → IntsAre vs (uniq gs) → Q (.ref r) { s with heap := h', toks := tk' }) :
    wpAny (model PySem.Challenge.pw_xm0585_01 w) (arnd dp un gd fr) (call (.ref 91) [.ref tm]) Q E s := by
  refine' enter (news := []) X T st0 (fun _ h => nomatch h) (fun _ h => nomatch h) ?ho ?hcd ?hroom ?hbind ?hloc ?_ ?c2 ?c3 ?c4 ?c5
  ((case ho => k_dflt k_is); (case hcd => k_dflt k_is); (case hroom => ktr_room); (case hbind => exact BindsTo.of_eq rfl); (case c2 => decide); (case c3 => exact rfl); (case c4 => exact rfl); (case c5 => exact rfl); (case hloc => exact locs rfl))
  intro g L' h₁' st1 st2 keep F' N' X' T' nL l1 d' u' fr' hd' hu'
  change Fr _ _ _ (fun y => List.lookup y [(_, _)]) at F'
  have k : ∀ b o, s.heap.get? b = some o → g.get? b = some o := fun b o e => keep b o e (fun h => nomatch h)
  replace ht := ht.mono k
  clear l1
  (try dsimp only)
  refine execs_mid2 (ToldAt g L' s gs) ?one ?two
  case one =>
    cases ht with
    | goto h1 h2 =>
      replace h1 := tup_of h1
      (repeat' (first | (k_unfold; (try dsimp only)) | (k_end; wrow_close) | ((first | ((with_reducible show wpAny _ _ (compareOp CmpOp.Eq (Value.str _ _) (Value.str _ _)) _ _ _); refine eq_str_no (by assumption) ?_) | ((with_reducible show wpAny _ _ (subscriptTail _ _ (Value.ref _) (Value.int _ _)) _ _ _); first | (refine item_tupleT (Fr.tup (by k_asm) (by assumption)) (by decide) (by decide) (by rfl) (by rfl) ?_; k_whole) | ((with_reducible show wpAny _ _ (subscriptTail _ _ (Value.ref _) (Value.int 0 _)) _ _ _); refine itemT_head (by k_asm) (by assumption) ?_; k_whole) | (refine itemL_at (by k_asm) (by assumption) (by first | assumption | rfl) (by ktr_units) (by ktr_units) ?_; k_whole)) | ((with_reducible show wpAny _ _ (spliced _) _ _ _); refine' args_plain ?qSS ?qFF ?qkk ?qPP ?_; (case qSS => rfl); (case qFF => k_asm); (case qkk => rfl); (case qPP => repeat' first | exact Plain.nil | (apply Plain.name; exact rfl; exact rfl; decide) | apply Plain.none | apply Plain.bool | apply Plain.int | apply Plain.str); k_whole; (try dsimp only [List.cons_append, List.nil_append])) | walk1) <;> first | (with_reducible show wpAny _ _ (subscriptTail _ (PySem.Expr.Slice _ _ _ _) _ _) _ _ _) | (try dsimp only)) | (dsimp only; walk1) | (leave1; try dsimp only) | fail "no step"))
      (rename Fr _ _ _ _ => F; rename News _ _ _ _ => N)
      exact ⟨_, _, _, [.int _ _], _, _, rfl, F, N.get (.head _), (N _ (.head _)).2.1, (N _ (.head _)).2.2, opt_int opt_nil, rfl, by simp⟩
    | call0 h1 h2 =>
      replace h1 := tup_of h1
      (repeat' (first | (k_unfold; (try dsimp only)) | (k_end; wrow_close) | ((first | ((with_reducible show wpAny _ _ (compareOp CmpOp.Eq (Value.str _ _) (Value.str _ _)) _ _ _); refine eq_str_no (by assumption) ?_) | ((with_reducible show wpAny _ _ (subscriptTail _ _ (Value.ref _) (Value.int _ _)) _ _ _); first | (refine item_tupleT (Fr.tup (by k_asm) (by assumption)) (by decide) (by decide) (by rfl) (by rfl) ?_; k_whole) | ((with_reducible show wpAny _ _ (subscriptTail _ _ (Value.ref _) (Value.int 0 _)) _ _ _); refine itemT_head (by k_asm) (by assumption) ?_; k_whole) | (refine itemL_at (by k_asm) (by assumption) (by first | assumption | rfl) (by ktr_units) (by ktr_units) ?_; k_whole)) | ((with_reducible show wpAny _ _ (spliced _) _ _ _); refine' args_plain ?qSS ?qFF ?qkk ?qPP ?_; (case qSS => rfl); (case qFF => k_asm); (case qkk => rfl); (case qPP => repeat' first | exact Plain.nil | (apply Plain.name; exact rfl; exact rfl; decide) | apply Plain.none | apply Plain.bool | apply Plain.int | apply Plain.str); k_whole; (try dsimp only [List.cons_append, List.nil_append])) | walk1) <;> first | (with_reducible show wpAny _ _ (subscriptTail _ (PySem.Expr.Slice _ _ _ _) _ _) _ _ _) | (try dsimp only)) | (dsimp only; walk1) | (leave1; try dsimp only) | fail "no step"))
      (rename Fr _ _ _ _ => F; rename News _ _ _ _ => N)
      exact ⟨_, _, _, [.none], _, _, rfl, F, N.get (.head _), (N _ (.head _)).2.1, (N _ (.head _)).2.2, opt_none opt_nil, rfl, by simp⟩
    | call1 h1 h2 =>
      replace h1 := tup_of h1
      (repeat' (first | (k_unfold; (try dsimp only)) | (k_end; wrow_close) | ((first | ((with_reducible show wpAny _ _ (compareOp CmpOp.Eq (Value.str _ _) (Value.str _ _)) _ _ _); refine eq_str_no (by assumption) ?_) | ((with_reducible show wpAny _ _ (subscriptTail _ _ (Value.ref _) (Value.int _ _)) _ _ _); first | (refine item_tupleT (Fr.tup (by k_asm) (by assumption)) (by decide) (by decide) (by rfl) (by rfl) ?_; k_whole) | ((with_reducible show wpAny _ _ (subscriptTail _ _ (Value.ref _) (Value.int 0 _)) _ _ _); refine itemT_head (by k_asm) (by assumption) ?_; k_whole) | (refine itemL_at (by k_asm) (by assumption) (by first | assumption | rfl) (by ktr_units) (by ktr_units) ?_; k_whole)) | ((with_reducible show wpAny _ _ (spliced _) _ _ _); refine' args_plain ?qSS ?qFF ?qkk ?qPP ?_; (case qSS => rfl); (case qFF => k_asm); (case qkk => rfl); (case qPP => repeat' first | exact Plain.nil | (apply Plain.name; exact rfl; exact rfl; decide) | apply Plain.none | apply Plain.bool | apply Plain.int | apply Plain.str); k_whole; (try dsimp only [List.cons_append, List.nil_append])) | walk1) <;> first | (with_reducible show wpAny _ _ (subscriptTail _ (PySem.Expr.Slice _ _ _ _) _ _) _ _ _) | (try dsimp only)) | (dsimp only; walk1) | (leave1; try dsimp only) | fail "no step"))
      (rename Fr _ _ _ _ => F; rename News _ _ _ _ => N)
      exact ⟨_, _, _, [.int _ _], _, _, rfl, F, N.get (.head _), (N _ (.head _)).2.1, (N _ (.head _)).2.2, opt_int opt_nil, rfl, by simp⟩
    | drop h1 h2 =>
      replace h1 := tup_of h1
      (repeat' (first | (k_unfold; (try dsimp only)) | (k_end; wrow_close) | ((first | ((with_reducible show wpAny _ _ (compareOp CmpOp.Eq (Value.str _ _) (Value.str _ _)) _ _ _); refine eq_str_no (by assumption) ?_) | ((with_reducible show wpAny _ _ (subscriptTail _ _ (Value.ref _) (Value.int _ _)) _ _ _); first | (refine item_tupleT (Fr.tup (by k_asm) (by assumption)) (by decide) (by decide) (by rfl) (by rfl) ?_; k_whole) | ((with_reducible show wpAny _ _ (subscriptTail _ _ (Value.ref _) (Value.int 0 _)) _ _ _); refine itemT_head (by k_asm) (by assumption) ?_; k_whole) | (refine itemL_at (by k_asm) (by assumption) (by first | assumption | rfl) (by ktr_units) (by ktr_units) ?_; k_whole)) | ((with_reducible show wpAny _ _ (spliced _) _ _ _); refine' args_plain ?qSS ?qFF ?qkk ?qPP ?_; (case qSS => rfl); (case qFF => k_asm); (case qkk => rfl); (case qPP => repeat' first | exact Plain.nil | (apply Plain.name; exact rfl; exact rfl; decide) | apply Plain.none | apply Plain.bool | apply Plain.int | apply Plain.str); k_whole; (try dsimp only [List.cons_append, List.nil_append])) | walk1) <;> first | (with_reducible show wpAny _ _ (subscriptTail _ (PySem.Expr.Slice _ _ _ _) _ _) _ _ _) | (try dsimp only)) | (dsimp only; walk1) | (leave1; try dsimp only) | fail "no step"))
      (rename Fr _ _ _ _ => F; rename News _ _ _ _ => N)
      exact ⟨_, _, _, [.int _ _], _, _, rfl, F, N.get (.head _), (N _ (.head _)).2.1, (N _ (.head _)).2.2, opt_int opt_nil, rfl, by simp⟩
    | assert h1 h2 =>
      replace h1 := tup_of h1
      (repeat' (first | (k_unfold; (try dsimp only)) | (k_end; wrow_close) | ((first | ((with_reducible show wpAny _ _ (compareOp CmpOp.Eq (Value.str _ _) (Value.str _ _)) _ _ _); refine eq_str_no (by assumption) ?_) | ((with_reducible show wpAny _ _ (subscriptTail _ _ (Value.ref _) (Value.int _ _)) _ _ _); first | (refine item_tupleT (Fr.tup (by k_asm) (by assumption)) (by decide) (by decide) (by rfl) (by rfl) ?_; k_whole) | ((with_reducible show wpAny _ _ (subscriptTail _ _ (Value.ref _) (Value.int 0 _)) _ _ _); refine itemT_head (by k_asm) (by assumption) ?_; k_whole) | (refine itemL_at (by k_asm) (by assumption) (by first | assumption | rfl) (by ktr_units) (by ktr_units) ?_; k_whole)) | ((with_reducible show wpAny _ _ (spliced _) _ _ _); refine' args_plain ?qSS ?qFF ?qkk ?qPP ?_; (case qSS => rfl); (case qFF => k_asm); (case qkk => rfl); (case qPP => repeat' first | exact Plain.nil | (apply Plain.name; exact rfl; exact rfl; decide) | apply Plain.none | apply Plain.bool | apply Plain.int | apply Plain.str); k_whole; (try dsimp only [List.cons_append, List.nil_append])) | walk1) <;> first | (with_reducible show wpAny _ _ (subscriptTail _ (PySem.Expr.Slice _ _ _ _) _ _) _ _ _) | (try dsimp only)) | (dsimp only; walk1) | (leave1; try dsimp only) | fail "no step"))
      (rename Fr _ _ _ _ => F; rename News _ _ _ _ => N)
      exact ⟨_, _, _, [.int _ _], _, _, rfl, F, N.get (.head _), (N _ (.head _)).2.1, (N _ (.head _)).2.2, opt_int opt_nil, rfl, by simp⟩
    | other h1 x1 x2 x3 x4 x5 h2 =>
      replace h1 := tup_of h1
      (repeat' (first | (k_unfold; (try dsimp only)) | (k_end; wrow_close) | ((first | ((with_reducible show wpAny _ _ (compareOp CmpOp.Eq (Value.str _ _) (Value.str _ _)) _ _ _); refine eq_str_no (by assumption) ?_) | ((with_reducible show wpAny _ _ (subscriptTail _ _ (Value.ref _) (Value.int _ _)) _ _ _); first | (refine item_tupleT (Fr.tup (by k_asm) (by assumption)) (by decide) (by decide) (by rfl) (by rfl) ?_; k_whole) | ((with_reducible show wpAny _ _ (subscriptTail _ _ (Value.ref _) (Value.int 0 _)) _ _ _); refine itemT_head (by k_asm) (by assumption) ?_; k_whole) | (refine itemL_at (by k_asm) (by assumption) (by first | assumption | rfl) (by ktr_units) (by ktr_units) ?_; k_whole)) | ((with_reducible show wpAny _ _ (spliced _) _ _ _); refine' args_plain ?qSS ?qFF ?qkk ?qPP ?_; (case qSS => rfl); (case qFF => k_asm); (case qkk => rfl); (case qPP => repeat' first | exact Plain.nil | (apply Plain.name; exact rfl; exact rfl; decide) | apply Plain.none | apply Plain.bool | apply Plain.int | apply Plain.str); k_whole; (try dsimp only [List.cons_append, List.nil_append])) | walk1) <;> first | (with_reducible show wpAny _ _ (subscriptTail _ (PySem.Expr.Slice _ _ _ _) _ _) _ _ _) | (try dsimp only)) | (dsimp only; walk1) | (leave1; try dsimp only) | fail "no step"))
      (rename Fr _ _ _ _ => F; rename News _ _ _ _ => N)
      exact ⟨_, _, _, [], _, _, rfl, F, N.get (.head _), (N _ (.head _)).2.1, (N _ (.head _)).2.2, opt_nil, rfl, by simp⟩
    | @switch2 tm du rs r0 r1 t t2 t3 t4 t5 one g0 g1 n1 n2 n3 n4 n5 h1 h2 h3 h4 h5 =>
      replace h1 := tup_of h1; replace h3 := tup_of h3; replace h4 := tup_of h4; replace h5 := tup_of h5
      (repeat' ((fail_if_success (with_reducible refine stop_at (by first | exact .loop | exact .iter | exact .comp | exact .item) ?_)); first | (k_unfold; (try dsimp only)) | (k_end; wrow_close) | ((first | ((with_reducible show wpAny _ _ (compareOp CmpOp.Eq (Value.str _ _) (Value.str _ _)) _ _ _); refine eq_str_no (by assumption) ?_) | ((with_reducible show wpAny _ _ (subscriptTail _ _ (Value.ref _) (Value.int _ _)) _ _ _); first | (refine item_tupleT (Fr.tup (by k_asm) (by assumption)) (by decide) (by decide) (by rfl) (by rfl) ?_; k_whole) | ((with_reducible show wpAny _ _ (subscriptTail _ _ (Value.ref _) (Value.int 0 _)) _ _ _); refine itemT_head (by k_asm) (by assumption) ?_; k_whole) | (refine itemL_at (by k_asm) (by assumption) (by first | assumption | rfl) (by ktr_units) (by ktr_units) ?_; k_whole)) | ((with_reducible show wpAny _ _ (spliced _) _ _ _); refine' args_plain ?qSS ?qFF ?qkk ?qPP ?_; (case qSS => rfl); (case qFF => k_asm); (case qkk => rfl); (case qPP => repeat' first | exact Plain.nil | (apply Plain.name; exact rfl; exact rfl; decide) | apply Plain.none | apply Plain.bool | apply Plain.int | apply Plain.str); k_whole; (try dsimp only [List.cons_append, List.nil_append])) | walk1) <;> first | (with_reducible show wpAny _ _ (subscriptTail _ (PySem.Expr.Slice _ _ _ _) _ _) _ _ _) | (try dsimp only)) | (dsimp only; walk1) | (leave1; try dsimp only) | fail "no step"))
      (rename Fr _ _ _ _ => F)
      refine ListComp_F F 2 (fun i ys => ys = [Value.int g0 t3, .int g1 t5].take i) (by with_unfolding_all rfl) (by decide) (by rfl) (by decide) ?_
      (repeat' ((fail_if_success (with_reducible refine stop_at (by first | exact .loop | exact .iter | exact .comp | exact .item) ?_)); first | (k_unfold; (try dsimp only)) | (k_end; wrow_close) | ((first | ((with_reducible show wpAny _ _ (compareOp CmpOp.Eq (Value.str _ _) (Value.str _ _)) _ _ _); refine eq_str_no (by assumption) ?_) | ((with_reducible show wpAny _ _ (subscriptTail _ _ (Value.ref _) (Value.int _ _)) _ _ _); first | (refine item_tupleT (Fr.tup (by k_asm) (by assumption)) (by decide) (by decide) (by rfl) (by rfl) ?_; k_whole) | ((with_reducible show wpAny _ _ (subscriptTail _ _ (Value.ref _) (Value.int 0 _)) _ _ _); refine itemT_head (by k_asm) (by assumption) ?_; k_whole) | (refine itemL_at (by k_asm) (by assumption) (by first | assumption | rfl) (by ktr_units) (by ktr_units) ?_; k_whole)) | ((with_reducible show wpAny _ _ (spliced _) _ _ _); refine' args_plain ?qSS ?qFF ?qkk ?qPP ?_; (case qSS => rfl); (case qFF => k_asm); (case qkk => rfl); (case qPP => repeat' first | exact Plain.nil | (apply Plain.name; exact rfl; exact rfl; decide) | apply Plain.none | apply Plain.bool | apply Plain.int | apply Plain.str); k_whole; (try dsimp only [List.cons_append, List.nil_append])) | walk1) <;> first | (with_reducible show wpAny _ _ (subscriptTail _ (PySem.Expr.Slice _ _ _ _) _ _) _ _ _) | (try dsimp only)) | (dsimp only; walk1) | (leave1; try dsimp only) | fail "no step"))
      (rename News _ _ _ _ => N)
      refine wpAny_pyIter_tuple (Fr.tup F h3) ?_
      refine ⟨col1_comp (items := [.ref r0, .ref r1]) rfl F h3 ?_ rfl rfl rfl (by decide) rfl (by show 2 ≤ sizeLine; decide), ?_⟩
      · intro i v e
        match i, e with
        | 0, e => cases e; exact ⟨_, _, _, rfl, h4, rfl⟩
        | 1, e => cases e; exact ⟨_, _, _, rfl, h5, rfl⟩
      · intro D h3' tk3 ys F₃ hD e1 e2 e3 e4 hJ
        subst hJ
        have N₃ := news_more (F := F) (N := (News.nil : News g L' h3' [])) e3 hD
        clear F N hD e1 e2 e3 e4
        (try dsimp only)
        simp only [List.take, LCg.lst] at N₃
        (repeat' (first | (k_unfold; (try dsimp only)) | (k_end; wrow_close) | ((first | ((with_reducible show wpAny _ _ (compareOp CmpOp.Eq (Value.str _ _) (Value.str _ _)) _ _ _); refine eq_str_no (by assumption) ?_) | ((with_reducible show wpAny _ _ (subscriptTail _ _ (Value.ref _) (Value.int _ _)) _ _ _); first | (refine item_tupleT (Fr.tup (by k_asm) (by assumption)) (by decide) (by decide) (by rfl) (by rfl) ?_; k_whole) | ((with_reducible show wpAny _ _ (subscriptTail _ _ (Value.ref _) (Value.int 0 _)) _ _ _); refine itemT_head (by k_asm) (by assumption) ?_; k_whole) | (refine itemL_at (by k_asm) (by assumption) (by first | assumption | rfl) (by ktr_units) (by ktr_units) ?_; k_whole)) | ((with_reducible show wpAny _ _ (spliced _) _ _ _); refine' args_plain ?qSS ?qFF ?qkk ?qPP ?_; (case qSS => rfl); (case qFF => k_asm); (case qkk => rfl); (case qPP => repeat' first | exact Plain.nil | (apply Plain.name; exact rfl; exact rfl; decide) | apply Plain.none | apply Plain.bool | apply Plain.int | apply Plain.str); k_whole; (try dsimp only [List.cons_append, List.nil_append])) | walk1) <;> first | (with_reducible show wpAny _ _ (subscriptTail _ (PySem.Expr.Slice _ _ _ _) _ _) _ _ _) | (try dsimp only)) | (dsimp only; walk1) | (leave1; try dsimp only) | fail "no step"))
        (rename Fr _ _ _ _ => F; rename News _ _ _ _ => N)
        exact ⟨_, _, _, [.int _ _, .int _ _, .none], _, _, rfl, F, N.get (.head _), (N _ (.head _)).2.1, (N _ (.head _)).2.2, opt_int (opt_int (opt_none opt_nil)), rfl, by simp⟩
    | @switch3 tm du rs r0 r1 t t2 t3 t4 t5 t6 one g0 g1 g2 n1 n2 n3 n4 n5 h1 h2 h3 h4 h5 =>
      replace h1 := tup_of h1; replace h3 := tup_of h3; replace h4 := tup_of h4; replace h5 := tup_of h5
      (repeat' ((fail_if_success (with_reducible refine stop_at (by first | exact .loop | exact .iter | exact .comp | exact .item) ?_)); first | (k_unfold; (try dsimp only)) | (k_end; wrow_close) | ((first | ((with_reducible show wpAny _ _ (compareOp CmpOp.Eq (Value.str _ _) (Value.str _ _)) _ _ _); refine eq_str_no (by assumption) ?_) | ((with_reducible show wpAny _ _ (subscriptTail _ _ (Value.ref _) (Value.int _ _)) _ _ _); first | (refine item_tupleT (Fr.tup (by k_asm) (by assumption)) (by decide) (by decide) (by rfl) (by rfl) ?_; k_whole) | ((with_reducible show wpAny _ _ (subscriptTail _ _ (Value.ref _) (Value.int 0 _)) _ _ _); refine itemT_head (by k_asm) (by assumption) ?_; k_whole) | (refine itemL_at (by k_asm) (by assumption) (by first | assumption | rfl) (by ktr_units) (by ktr_units) ?_; k_whole)) | ((with_reducible show wpAny _ _ (spliced _) _ _ _); refine' args_plain ?qSS ?qFF ?qkk ?qPP ?_; (case qSS => rfl); (case qFF => k_asm); (case qkk => rfl); (case qPP => repeat' first | exact Plain.nil | (apply Plain.name; exact rfl; exact rfl; decide) | apply Plain.none | apply Plain.bool | apply Plain.int | apply Plain.str); k_whole; (try dsimp only [List.cons_append, List.nil_append])) | walk1) <;> first | (with_reducible show wpAny _ _ (subscriptTail _ (PySem.Expr.Slice _ _ _ _) _ _) _ _ _) | (try dsimp only)) | (dsimp only; walk1) | (leave1; try dsimp only) | fail "no step"))
      (rename Fr _ _ _ _ => F)
      refine ListComp_F F 2 (fun i ys => ys = [Value.int g0 t3, .int g1 t5].take i) (by with_unfolding_all rfl) (by decide) (by rfl) (by decide) ?_
      (repeat' ((fail_if_success (with_reducible refine stop_at (by first | exact .loop | exact .iter | exact .comp | exact .item) ?_)); first | (k_unfold; (try dsimp only)) | (k_end; wrow_close) | ((first | ((with_reducible show wpAny _ _ (compareOp CmpOp.Eq (Value.str _ _) (Value.str _ _)) _ _ _); refine eq_str_no (by assumption) ?_) | ((with_reducible show wpAny _ _ (subscriptTail _ _ (Value.ref _) (Value.int _ _)) _ _ _); first | (refine item_tupleT (Fr.tup (by k_asm) (by assumption)) (by decide) (by decide) (by rfl) (by rfl) ?_; k_whole) | ((with_reducible show wpAny _ _ (subscriptTail _ _ (Value.ref _) (Value.int 0 _)) _ _ _); refine itemT_head (by k_asm) (by assumption) ?_; k_whole) | (refine itemL_at (by k_asm) (by assumption) (by first | assumption | rfl) (by ktr_units) (by ktr_units) ?_; k_whole)) | ((with_reducible show wpAny _ _ (spliced _) _ _ _); refine' args_plain ?qSS ?qFF ?qkk ?qPP ?_; (case qSS => rfl); (case qFF => k_asm); (case qkk => rfl); (case qPP => repeat' first | exact Plain.nil | (apply Plain.name; exact rfl; exact rfl; decide) | apply Plain.none | apply Plain.bool | apply Plain.int | apply Plain.str); k_whole; (try dsimp only [List.cons_append, List.nil_append])) | walk1) <;> first | (with_reducible show wpAny _ _ (subscriptTail _ (PySem.Expr.Slice _ _ _ _) _ _) _ _ _) | (try dsimp only)) | (dsimp only; walk1) | (leave1; try dsimp only) | fail "no step"))
      (rename News _ _ _ _ => N)
      refine wpAny_pyIter_tuple (Fr.tup F h3) ?_
      refine ⟨col1_comp (items := [.ref r0, .ref r1]) rfl F h3 ?_ rfl rfl rfl (by decide) rfl (by show 2 ≤ sizeLine; decide), ?_⟩
      · intro i v e
        match i, e with
        | 0, e => cases e; exact ⟨_, _, _, rfl, h4, rfl⟩
        | 1, e => cases e; exact ⟨_, _, _, rfl, h5, rfl⟩
      · intro D h3' tk3 ys F₃ hD e1 e2 e3 e4 hJ
        subst hJ
        have N₃ := news_more (F := F) (N := (News.nil : News g L' h3' [])) e3 hD
        clear F N hD e1 e2 e3 e4
        (try dsimp only)
        simp only [List.take, LCg.lst] at N₃
        (repeat' (first | (k_unfold; (try dsimp only)) | (k_end; wrow_close) | ((first | ((with_reducible show wpAny _ _ (compareOp CmpOp.Eq (Value.str _ _) (Value.str _ _)) _ _ _); refine eq_str_no (by assumption) ?_) | ((with_reducible show wpAny _ _ (subscriptTail _ _ (Value.ref _) (Value.int _ _)) _ _ _); first | (refine item_tupleT (Fr.tup (by k_asm) (by assumption)) (by decide) (by decide) (by rfl) (by rfl) ?_; k_whole) | ((with_reducible show wpAny _ _ (subscriptTail _ _ (Value.ref _) (Value.int 0 _)) _ _ _); refine itemT_head (by k_asm) (by assumption) ?_; k_whole) | (refine itemL_at (by k_asm) (by assumption) (by first | assumption | rfl) (by ktr_units) (by ktr_units) ?_; k_whole)) | ((with_reducible show wpAny _ _ (spliced _) _ _ _); refine' args_plain ?qSS ?qFF ?qkk ?qPP ?_; (case qSS => rfl); (case qFF => k_asm); (case qkk => rfl); (case qPP => repeat' first | exact Plain.nil | (apply Plain.name; exact rfl; exact rfl; decide) | apply Plain.none | apply Plain.bool | apply Plain.int | apply Plain.str); k_whole; (try dsimp only [List.cons_append, List.nil_append])) | walk1) <;> first | (with_reducible show wpAny _ _ (subscriptTail _ (PySem.Expr.Slice _ _ _ _) _ _) _ _ _) | (try dsimp only)) | (dsimp only; walk1) | (leave1; try dsimp only) | fail "no step"))
        (rename Fr _ _ _ _ => F; rename News _ _ _ _ => N)
        exact ⟨_, _, _, [.int _ _, .int _ _, .int _ _], _, _, rfl, F, N.get (.head _), (N _ (.head _)).2.1, (N _ (.head _)).2.2, opt_int (opt_int (opt_int opt_nil)), rfl, by simp⟩
  case two =>
    clear ht F' N'
    rintro _ ⟨h, tk, D, vs, n, m₀, rfl, F, hD, nDL, gD, hvs, rfl, hl3⟩
    have N : News g L' h [(D, listOf (List.toArray vs) n)] := fun p hp => by rw [List.mem_singleton.mp hp]; exact ⟨hD, nDL, gD⟩
    (try dsimp only)
    (repeat' ((fail_if_success (with_reducible refine stop_at (by first | exact .loop | exact .iter | exact .comp | exact .item) ?_)); first | (k_unfold; (try dsimp only)) | (k_end; wrow_close) | ((first | ((with_reducible show wpAny _ _ (compareOp CmpOp.Eq (Value.str _ _) (Value.str _ _)) _ _ _); refine eq_str_no (by assumption) ?_) | ((with_reducible show wpAny _ _ (subscriptTail _ _ (Value.ref _) (Value.int _ _)) _ _ _); first | (refine item_tupleT (Fr.tup (by k_asm) (by assumption)) (by decide) (by decide) (by rfl) (by rfl) ?_; k_whole) | ((with_reducible show wpAny _ _ (subscriptTail _ _ (Value.ref _) (Value.int 0 _)) _ _ _); refine itemT_head (by k_asm) (by assumption) ?_; k_whole) | (refine itemL_at (by k_asm) (by assumption) (by first | assumption | rfl) (by ktr_units) (by ktr_units) ?_; k_whole)) | ((with_reducible show wpAny _ _ (spliced _) _ _ _); refine' args_plain ?qSS ?qFF ?qkk ?qPP ?_; (case qSS => rfl); (case qFF => k_asm); (case qkk => rfl); (case qPP => repeat' first | exact Plain.nil | (apply Plain.name; exact rfl; exact rfl; decide) | apply Plain.none | apply Plain.bool | apply Plain.int | apply Plain.str); k_whole; (try dsimp only [List.cons_append, List.nil_append])) | walk1) <;> first | (with_reducible show wpAny _ _ (subscriptTail _ (PySem.Expr.Slice _ _ _ _) _ _) _ _ _) | (try dsimp only)) | (dsimp only; walk1) | (leave1; try dsimp only) | fail "no step"))
    refine wpAny_For ?_ (by intro _; rfl)
    (repeat' ((fail_if_success (with_reducible refine stop_at (by first | exact .loop | exact .iter | exact .comp | exact .item) ?_)); first | (k_unfold; (try dsimp only)) | (k_end; wrow_close) | ((first | ((with_reducible show wpAny _ _ (compareOp CmpOp.Eq (Value.str _ _) (Value.str _ _)) _ _ _); refine eq_str_no (by assumption) ?_) | ((with_reducible show wpAny _ _ (subscriptTail _ _ (Value.ref _) (Value.int _ _)) _ _ _); first | (refine item_tupleT (Fr.tup (by k_asm) (by assumption)) (by decide) (by decide) (by rfl) (by rfl) ?_; k_whole) | ((with_reducible show wpAny _ _ (subscriptTail _ _ (Value.ref _) (Value.int 0 _)) _ _ _); refine itemT_head (by k_asm) (by assumption) ?_; k_whole) | (refine itemL_at (by k_asm) (by assumption) (by first | assumption | rfl) (by ktr_units) (by ktr_units) ?_; k_whole)) | ((with_reducible show wpAny _ _ (spliced _) _ _ _); refine' args_plain ?qSS ?qFF ?qkk ?qPP ?_; (case qSS => rfl); (case qFF => k_asm); (case qkk => rfl); (case qPP => repeat' first | exact Plain.nil | (apply Plain.name; exact rfl; exact rfl; decide) | apply Plain.none | apply Plain.bool | apply Plain.int | apply Plain.str); k_whole; (try dsimp only [List.cons_append, List.nil_append])) | walk1) <;> first | (with_reducible show wpAny _ _ (subscriptTail _ (PySem.Expr.Slice _ _ _ _) _ _) _ _ _) | (try dsimp only)) | (dsimp only; walk1) | (leave1; try dsimp only) | fail "no step"))
    rename Fr _ _ _ _ => F₂; rename News _ _ _ _ => N₂
    refine oneName N₂ (fun R eR => ?_)
    subst eR
    have rN := N₂ _ (.head _); have dN := N₂ _ (.tail _ (.head _))
    have nDR : D ≠ R := by k_ne
    refine list_H (l := D) (vs := vs) (fun i m h => AgreeOff [Str.ofString "block"] _ m ∧ h.IsList D vs.toArray ∧ ∃ n ws us, h.get? R = some (listOf (List.toArray ws) n) ∧ IntsAre ws us ∧ us = uniq (optInts (vs.take i)) ∧ ws.length ≤ i) rfl (isl dN.1) rfl rfl F₂ ⟨.refl, isl dN.1, _, [], [], rN.1, .nil, rfl, Nat.zero_le _⟩ ?stab (fun _ _ _ hJ => hJ.2.1) ?step ?done
    case stab => exact fun i m h h' F hJ ko => ⟨hJ.1, lst_keep1 (fun x o e hf => ko x o e (seq_ne_ns1 F e hf.2) (.inl hf.1)) hJ.2.1, let ⟨n, ws, us, a, b⟩ := hJ.2.2; ⟨n, ws, us, ko R _ a rN.2.1 (.inl rfl), b⟩⟩
    case done =>
      intro m' h' tk' hJ F'
      refine hide (fun P9 toP9 => ?_)
      obtain ⟨ha, hD', n', ws, us, hR, hi, hus, hlw⟩ := hJ
      rw [AgreeOff.form ha] at F'
      rw [List.take_length] at hus
      have N' : News g L' h' [(R, listOf (List.toArray ws) n')] := fun p hp => by rw [List.mem_singleton.mp hp]; exact ⟨hR, rN.2⟩
      clear F₂ N₂
      (refine toP9 ?_; clear toP9 P9)
      (try dsimp only)
      (repeat' ((fail_if_success (with_reducible refine stop_at (by first | exact .loop | exact .iter | exact .comp | exact .item) ?_)); first | (k_unfold; (try dsimp only)) | (k_end; wrow_close) | ((first | ((with_reducible show wpAny _ _ (compareOp CmpOp.Eq (Value.str _ _) (Value.str _ _)) _ _ _); refine eq_str_no (by assumption) ?_) | ((with_reducible show wpAny _ _ (subscriptTail _ _ (Value.ref _) (Value.int _ _)) _ _ _); first | (refine item_tupleT (Fr.tup (by k_asm) (by assumption)) (by decide) (by decide) (by rfl) (by rfl) ?_; k_whole) | ((with_reducible show wpAny _ _ (subscriptTail _ _ (Value.ref _) (Value.int 0 _)) _ _ _); refine itemT_head (by k_asm) (by assumption) ?_; k_whole) | (refine itemL_at (by k_asm) (by assumption) (by first | assumption | rfl) (by ktr_units) (by ktr_units) ?_; k_whole)) | ((with_reducible show wpAny _ _ (spliced _) _ _ _); refine' args_plain ?qSS ?qFF ?qkk ?qPP ?_; (case qSS => rfl); (case qFF => k_asm); (case qkk => rfl); (case qPP => repeat' first | exact Plain.nil | (apply Plain.name; exact rfl; exact rfl; decide) | apply Plain.none | apply Plain.bool | apply Plain.int | apply Plain.str); k_whole; (try dsimp only [List.cons_append, List.nil_append])) | walk1) <;> first | (with_reducible show wpAny _ _ (subscriptTail _ (PySem.Expr.Slice _ _ _ _) _ _) _ _ _) | (try dsimp only)) | (dsimp only; walk1) | (leave1; try dsimp only) | fail "no step"))
      (rename Fr _ _ _ _ => F9; rename News _ _ _ _ => N9)
      exact hQ _ _ _ _ (fun b o e => F9.keep b o (k b o e)) ⟨_, N9.get (.head _), rfl, _, rfl⟩ (hus ▸ hi)
    case step =>
      intro i v m₁ h1 tk1 hv hJ F₁
      refine hide (fun P9 toP9 => ?_)
      obtain ⟨ha, ⟨oD, hoD, cD, nD, dD⟩, n1, ws, us, hR1, hi, hus, hlw⟩ := hJ
      (refine toP9 ?_; clear toP9 P9)
      rw [AgreeOff.form ha] at F₁
      have hil : i < vs.length := (List.getElem?_eq_some_iff.mp hv).1
      have N1 : News g L' h1 [(R, listOf (List.toArray ws) n1)] := fun p hp => by rw [List.mem_singleton.mp hp]; exact ⟨hR1, rN.2⟩
      refine hide (fun P9 toP9 => ?_)
      obtain ⟨D3, N3, hDn, hDD⟩ := refresh F₁ N1
      (refine toP9 ?_; clear toP9 P9)
      have d3 := off_ms hDn (a := R) (.head _)
      have N4 : News g L' h1 ((R, listOf (List.toArray ws) n1) :: D3) := fun p hp => (List.mem_cons.mp hp).elim (fun e => by rw [e]; exact ⟨hR1, rN.2⟩) (N3 p)
      have kk : ∀ h' m' news', Fr g L' h' m' → News g L' h' news' → (∀ p ∈ D3, p ∈ news') → ∀ b o, h1.get? b = some o → b ≠ L' → b ∉ [R] → h'.get? b = some o := fun _ _ _ a b c => keepMs_of hDD a b c
      have nf := ns_fields F₁
      have kt : ∀ h' : Heap, (∀ b o, h1.get? b = some o → b ≠ L' → b ∉ [R] → h'.get? b = some o) → KeepIt h1 h' := fun h' q b o e f => q b o e (fun z => by rw [nf o (z ▸ e)] at f; cases f) (fun z => by rw [List.mem_singleton.mp z, hR1] at e; cases e; cases f)
      have kl : ∀ h' : Heap, (∀ b o, h1.get? b = some o → b ≠ L' → b ∉ [R] → h'.get? b = some o) → h'.IsList D vs.toArray := fun h' q => ⟨oD, q D oD hoD nDL (by simp [nDR]), cD, nD, dD⟩
      have hsz : (List.toArray ws).size ≤ sizeLine := by rw [List.size_toArray]; unfold sizeLine; omega
      clear hDD N3 N1 F₂ N₂
      rcases hvs v (List.mem_of_getElem? hv) with rfl | ⟨x, tx, rfl⟩
      · (try dsimp only)
        (repeat' ((fail_if_success (with_reducible refine stop_at (by first | exact .loop | exact .iter | exact .comp | exact .item) ?_)); first | (k_unfold; (try dsimp only)) | (k_end; wrow_close) | ((first | ((with_reducible show wpAny _ _ (compareOp CmpOp.Eq (Value.str _ _) (Value.str _ _)) _ _ _); refine eq_str_no (by assumption) ?_) | ((with_reducible show wpAny _ _ (subscriptTail _ _ (Value.ref _) (Value.int _ _)) _ _ _); first | (refine item_tupleT (Fr.tup (by k_asm) (by assumption)) (by decide) (by decide) (by rfl) (by rfl) ?_; k_whole) | ((with_reducible show wpAny _ _ (subscriptTail _ _ (Value.ref _) (Value.int 0 _)) _ _ _); refine itemT_head (by k_asm) (by assumption) ?_; k_whole) | (refine itemL_at (by k_asm) (by assumption) (by first | assumption | rfl) (by ktr_units) (by ktr_units) ?_; k_whole)) | ((with_reducible show wpAny _ _ (spliced _) _ _ _); refine' args_plain ?qSS ?qFF ?qkk ?qPP ?_; (case qSS => rfl); (case qFF => k_asm); (case qkk => rfl); (case qPP => repeat' first | exact Plain.nil | (apply Plain.name; exact rfl; exact rfl; decide) | apply Plain.none | apply Plain.bool | apply Plain.int | apply Plain.str); k_whole; (try dsimp only [List.cons_append, List.nil_append])) | walk1) <;> first | (with_reducible show wpAny _ _ (subscriptTail _ (PySem.Expr.Slice _ _ _ _) _ _) _ _ _) | (try dsimp only)) | (dsimp only; walk1) | (leave1; try dsimp only) | fail "no step"))
        (try dsimp only)
        (rename Fr _ _ _ _ => F9; rename News _ _ _ _ => N9)
        have q9 := kk _ _ _ F9 N9 (fun p hp => .tail _ hp)
        refine ⟨_, _, _, rfl, F9, kt _ q9, ?_, kl _ q9, n1, ws, us, N9.get (.head _), hi, ?_, by omega⟩
        · intro y hy
          simp only [List.mem_cons, List.not_mem_nil, or_false, not_or] at hy
          simp only [pick, hy, if_false]
        · rw [List.take_add_one, hv, Option.toList_some, optInts_none]; exact hus
      · (try dsimp only)
        (repeat' ((fail_if_success (with_reducible refine stop_at (by first | exact .loop | exact .iter | exact .comp | exact .item) ?_)); first | (k_unfold; (try dsimp only)) | (k_end; wrow_close) | ((first | ((with_reducible show wpAny _ _ (compareOp CmpOp.Eq (Value.str _ _) (Value.str _ _)) _ _ _); refine eq_str_no (by assumption) ?_) | ((with_reducible show wpAny _ _ (subscriptTail _ _ (Value.ref _) (Value.int _ _)) _ _ _); first | (refine item_tupleT (Fr.tup (by k_asm) (by assumption)) (by decide) (by decide) (by rfl) (by rfl) ?_; k_whole) | ((with_reducible show wpAny _ _ (subscriptTail _ _ (Value.ref _) (Value.int 0 _)) _ _ _); refine itemT_head (by k_asm) (by assumption) ?_; k_whole) | (refine itemL_at (by k_asm) (by assumption) (by first | assumption | rfl) (by ktr_units) (by ktr_units) ?_; k_whole)) | ((with_reducible show wpAny _ _ (spliced _) _ _ _); refine' args_plain ?qSS ?qFF ?qkk ?qPP ?_; (case qSS => rfl); (case qFF => k_asm); (case qkk => rfl); (case qPP => repeat' first | exact Plain.nil | (apply Plain.name; exact rfl; exact rfl; decide) | apply Plain.none | apply Plain.bool | apply Plain.int | apply Plain.str); k_whole; (try dsimp only [List.cons_append, List.nil_append])) | walk1) <;> first | (with_reducible show wpAny _ _ (subscriptTail _ (PySem.Expr.Slice _ _ _ _) _ _) _ _ _) | (try dsimp only)) | (dsimp only; walk1) | (leave1; try dsimp only) | fail "no step"))
        all_goals (try dsimp only)
        all_goals (rename Fr _ _ _ _ => F9; rename News _ _ _ _ => N9)
        all_goals have q9 := kk _ _ _ F9 N9 (fun p hp => .tail _ hp)
        all_goals first
          | (refine ⟨_, _, _, rfl, F9, kt _ q9, fun y hy => ?_, kl _ q9, n1, ws, us, N9.get (.head _), hi, ?_, by omega⟩
             · simp only [List.mem_cons, List.not_mem_nil, or_false, not_or] at hy
               simp only [pick, hy, if_false]
             · rw [List.take_add_one, hv, Option.toList_some, optInts_int, uniq_in (by rw [← uniq_any, ← hus]; assumption)]; exact hus)
          | (refine ⟨_, _, _, rfl, F9, kt _ q9, fun y hy => ?_, kl _ q9, n1 + 1, ws ++ [.int x tx], us ++ [x], by simpa using N9.get (.head _), ints_snoc hi x tx, ?_, by rw [List.length_append, List.length_singleton]; omega⟩
             · simp only [List.mem_cons, List.not_mem_nil, or_false, not_or] at hy
               simp only [pick, hy, if_false]
             · rw [List.take_add_one, hv, Option.toList_some, optInts_int, uniq_off (by rw [← uniq_any, ← hus]; assumption), hus])
/-- a tuple's items: pairs of whole numbers -/
inductive PairsL (h : Heap) : List Value → List (Int × Int) → Prop
  | nil : PairsL h [] []
  | cons {p : Addr} {b i : Int} {tb ti : Tok} {vs : List Value} {ps : List (Int × Int)} (e : IsTup h p #[.int b tb, .int i ti]) : PairsL h vs ps → PairsL h (.ref p :: vs) ((b, i) :: ps)
def PairsAt (h : Heap) (v : Value) (ps : List (Int × Int)) : Prop := ∃ t vs, v = .ref t ∧ IsTup h t (List.toArray vs) ∧ PairsL h vs ps
theorem PairsL.mono {h h' : Heap} (k : ∀ b o, h.get? b = some o → h'.get? b = some o) {vs : List Value} {ps : List (Int × Int)} (x : PairsL h vs ps) : PairsL h' vs ps := by
  induction x with
  | nil => exact .nil
  | cons e _ ih => exact .cons (e.keeps k) ih
theorem PairsL.append {h : Heap} {vs ws : List Value} {ps qs : List (Int × Int)} (x : PairsL h vs ps) (y : PairsL h ws qs) : PairsL h (vs ++ ws) (ps ++ qs) := by
  induction x with
  | nil => exact y
  | cons e _ ih => exact .cons e ih
theorem PairsL.len {h : Heap} {vs : List Value} {ps : List (Int × Int)} (x : PairsL h vs ps) : vs.length = ps.length := by
  induction x with
  | nil => rfl
  | cons e _ ih => simp [ih]
theorem PairsAt.mono {h h' : Heap} (k : ∀ b o, h.get? b = some o → h'.get? b = some o) {v : Value} {ps : List (Int × Int)} (x : PairsAt h v ps) : PairsAt h' v ps := let ⟨t, vs, e, a, b⟩ := x; ⟨t, vs, e, a.keeps k, b.mono k⟩
section
variable {prog : Program} {w : World} {A : Around} {E : Value → Shared → Prop} {s : Shared} {g : Heap} {L : Addr} {m : Str → Option Value} {news : List (Addr × Obj)}
theorem add_tups {t b : Addr} {vs ws : List Value} {Q : Value → Shared → Prop} (F : Fr g L s.heap m) (N : News g L s.heap news) (ht : IsTup s.heap t vs.toArray) (hb : IsTup s.heap b ws.toArray) (hsz : vs.length + ws.length ≤ sizeLine)
    (h : ∀ r h', Fr g L h' m → News g L h' news → IsTup h' r (vs ++ ws).toArray → Q (.ref r) { s with heap := h' }) :
    wpAny (model prog w) A (binaryOp .Add (.ref t) (.ref b)) Q E s :=
  add_tuples F N ht hb (fun e => h b s.heap F N (by subst e; exact hb)) (fun _ e => h t s.heap F N (by subst e; simpa using ht)) (fun _ _ h' F' N' => h _ h' F' (fun p hp => N' p (.tail _ hp)) ⟨_, N'.get (.head _), rfl, 0, rfl⟩) hsz
end
section
variable {w : World} {mean : ExcName → Option Value} {mg mb : Str → Option Value} {h₀ : Heap} {s : Shared} {dp un : Nat} {gd : Option (List Code)} {fr : Option (List Env)} {f : Value} {ps qs : List (Int × Int)} {Q E : Value → Shared → Prop}
set_option maxRecDepth 100000 in
set_option maxHeartbeats 1000000 in
theorem step_ok {b i : Int} {tb ti : Tok} (X : (Mine.hd.heap_1 w.params).In h₀) (T : Top Mine.vw (looseW Mine.vw []) mean mg mb h₀) (st0 : h₀.StaysIn s.heap)
    (hd : dp + 1 < recursionLimit) (hu : un + 100 < cLine) (hf : PairsAt s.heap f ps) (hl : ps.length < 1000)
    (hQ : ∀ v h' tk', s.heap.StaysIn h' → PairsAt h' v (ps ++ [(b, i)]) → Q v { s with heap := h', toks := tk' }) :
    wpAny (model PySem.Challenge.pw_xm0585_01 w) (arnd dp un gd fr) (call (.ref 194) [f, .int b tb, .int i ti]) Q E s := by
  refine hide (fun P9 toP9 => ?_)
  obtain ⟨t, vs, rfl, ht, hp⟩ := hf
  (refine toP9 ?_; clear toP9 P9)
  refine' enter (news := []) X T st0 (fun _ h => nomatch h) (fun _ h => nomatch h) ?ho ?hcd ?hroom ?hbind ?hloc ?_ ?c2 ?c3 ?c4 ?c5
  ((case ho => k_dflt k_is); (case hcd => k_dflt k_is); (case hroom => ktr_room); (case hbind => exact BindsTo.of_eq rfl); (case c2 => decide); (case c3 => exact rfl); (case c4 => exact rfl); (case c5 => exact rfl); (case hloc => exact locs rfl))
  intro g L' h₁' st1 st2 keep F' N' X' T' nL l1 d' u' fr' hd' hu'
  change Fr _ _ _ (fun y => List.lookup y [(_, _), (_, _), (_, _)]) at F'
  have k : ∀ b o, s.heap.get? b = some o → g.get? b = some o := fun b o e => keep b o e (fun h => nomatch h)
  replace ht := ht.keeps k
  replace hp := hp.mono k
  clear l1
  (try dsimp only)
  repeat' ((fail_if_success (with_reducible show wpAny _ _ (binaryOp _ _ _) _ _ _)); walk1)
  rename Fr _ _ _ _ => F; rename News _ _ _ _ => N
  refine add_tups F N (F.tup ht) (N.isTup (.head _)) (by have := hp.len; show vs.length + 1 ≤ sizeLine; unfold sizeLine; omega) ?_
  intro r h' F₂ N₂ hr
  have hn : PairsL h' (vs ++ [_]) (ps ++ [(b, i)]) := (hp.mono F₂.keep).append (.cons (N₂.isTup (.tail _ (.head _))) .nil)
  clear F N
  (try dsimp only)
  (repeat' (first | (k_unfold; (try dsimp only)) | (k_end; wrow_close) | ((first | ((with_reducible show wpAny _ _ (spliced _) _ _ _); refine' args_plain ?qSS ?qFF ?qkk ?qPP ?_; (case qSS => rfl); (case qFF => k_asm); (case qkk => rfl); (case qPP => repeat' first | exact Plain.nil | (apply Plain.name; exact rfl; exact rfl; decide) | apply Plain.none | apply Plain.bool | apply Plain.int | apply Plain.str); k_whole; (try dsimp only [List.cons_append, List.nil_append])) | walk1) <;> first | (with_reducible show wpAny _ _ (subscriptTail _ (PySem.Expr.Slice _ _ _ _) _ _) _ _ _) | (try dsimp only)) | (dsimp only; walk1) | (leave1; try dsimp only) | fail "no step"))
  (try dsimp only)
  rename Fr _ _ _ _ => F
  exact hQ _ _ _ (fun b o e => F.keep b o (k b o e)) ⟨_, _, rfl, hr, hn⟩
set_option maxRecDepth 100000 in
set_option maxHeartbeats 1000000 in
theorem joined_ok (X : (Mine.hd.heap_1 w.params).In h₀) (T : Top Mine.vw (looseW Mine.vw []) mean mg mb h₀) (st0 : h₀.StaysIn s.heap)
    (hd : dp + 1 < recursionLimit) (hu : un + 100 < cLine) {f2 : Value} (hf : PairsAt s.heap f ps) (hf2 : PairsAt s.heap f2 qs) (hl : ps.length < 1000) (hl2 : qs.length < 1000)
    (hQ : ∀ v h' tk', s.heap.StaysIn h' → PairsAt h' v (ps ++ qs) → Q v { s with heap := h', toks := tk' }) :
    wpAny (model PySem.Challenge.pw_xm0585_01 w) (arnd dp un gd fr) (call (.ref 201) [f, f2]) Q E s := by
  refine hide (fun P9 toP9 => ?_)
  obtain ⟨t, vs, rfl, ht, hp⟩ := hf
  obtain ⟨t2, ws, rfl, ht2, hp2⟩ := hf2
  (refine toP9 ?_; clear toP9 P9)
  refine' enter (news := []) X T st0 (fun _ h => nomatch h) (fun _ h => nomatch h) ?ho ?hcd ?hroom ?hbind ?hloc ?_ ?c2 ?c3 ?c4 ?c5
  ((case ho => k_dflt k_is); (case hcd => k_dflt k_is); (case hroom => ktr_room); (case hbind => exact BindsTo.of_eq rfl); (case c2 => decide); (case c3 => exact rfl); (case c4 => exact rfl); (case c5 => exact rfl); (case hloc => exact locs rfl))
  intro g L' h₁' st1 st2 keep F' N' X' T' nL l1 d' u' fr' hd' hu'
  change Fr _ _ _ (fun y => List.lookup y [(_, _), (_, _)]) at F'
  have k : ∀ b o, s.heap.get? b = some o → g.get? b = some o := fun b o e => keep b o e (fun h => nomatch h)
  replace ht := ht.keeps k
  replace ht2 := ht2.keeps k
  replace hp := hp.mono k
  replace hp2 := hp2.mono k
  clear l1
  (try dsimp only)
  repeat' ((fail_if_success (with_reducible show wpAny _ _ (binaryOp _ _ _) _ _ _)); walk1)
  rename Fr _ _ _ _ => F; rename News _ _ _ _ => N
  refine add_tups F N (F.tup ht) (F.tup ht2) (by have := hp.len; have := hp2.len; unfold sizeLine; omega) ?_
  intro r h' F₂ N₂ hr
  have hn := (hp.append hp2).mono F₂.keep
  clear F N
  (try dsimp only)
  (repeat' (first | (k_unfold; (try dsimp only)) | (k_end; wrow_close) | ((first | ((with_reducible show wpAny _ _ (spliced _) _ _ _); refine' args_plain ?qSS ?qFF ?qkk ?qPP ?_; (case qSS => rfl); (case qFF => k_asm); (case qkk => rfl); (case qPP => repeat' first | exact Plain.nil | (apply Plain.name; exact rfl; exact rfl; decide) | apply Plain.none | apply Plain.bool | apply Plain.int | apply Plain.str); k_whole; (try dsimp only [List.cons_append, List.nil_append])) | walk1) <;> first | (with_reducible show wpAny _ _ (subscriptTail _ (PySem.Expr.Slice _ _ _ _) _ _) _ _ _) | (try dsimp only)) | (dsimp only; walk1) | (leave1; try dsimp only) | fail "no step"))
  (try dsimp only)
  rename Fr _ _ _ _ => F
  exact hQ _ _ _ (fun b o e => F.keep b o (k b o e)) ⟨_, _, rfl, hr, hn⟩
end
section
variable {w : World} {mean : ExcName → Option Value} {mg mb : Str → Option Value} {h₀ : Heap} {s : Shared} {dp un : Nat} {gd : Option (List Code)} {fr : Option (List Env)} {Q E : Value → Shared → Prop}
set_option maxRecDepth 100000 in
set_option maxHeartbeats 2000000 in
theorem pool_ok {sc : Addr} {vs : List Value} {ns : List Int} (X : (Mine.hd.heap_1 w.params).In h₀) (T : Top Mine.vw (looseW Mine.vw []) mean mg mb h₀) (st0 : h₀.StaysIn s.heap)
    (hd : dp + 1 < recursionLimit) (hu : un + 100 < cLine) (hl : s.heap.IsList sc (List.toArray vs)) (hi : IntsAre vs ns) (hn : vs.length ≤ 63)
    (hQ : ∀ r h' tk', s.heap.StaysIn h' → SrcOk h' r → s.heap.get? r = none → Q (.ref r) { s with heap := h', toks := tk' }) :
    wpAny (model PySem.Challenge.pw_xm0585_01 w) (arnd dp un gd fr) (call (.ref 147) [.ref sc]) Q E s := by
  refine' enter (news := []) X T st0 (fun _ h => nomatch h) (fun _ h => nomatch h) ?ho ?hcd ?hroom ?hbind ?hloc ?_ ?c2 ?c3 ?c4 ?c5
  ((case ho => k_dflt k_is); (case hcd => k_dflt k_is); (case hroom => ktr_room); (case hbind => exact BindsTo.of_eq rfl); (case c2 => decide); (case c3 => exact rfl); (case c4 => exact rfl); (case c5 => exact rfl); (case hloc => exact locs rfl))
  intro g L' h₁' st1 st2 keep F' N' X' T' nL l1 d' u' fr' hd' hu'
  change Fr _ _ _ (fun y => List.lookup y [(_, _)]) at F'
  have k : ∀ b o, s.heap.get? b = some o → g.get? b = some o := fun b o e => keep b o e (fun h => nomatch h)
  replace hl := hl.at (k sc)
  clear l1
  (try dsimp only)
  have fin : ∀ {r : Addr} {o : Obj} {h' : Heap} {L'' : Addr} {mm : Str → Option Value} {news : List (Addr × Obj)} {tk' : Nat}, Fr g L'' h' mm → News g L'' h' ((r, o) :: news) → SrcObj o → Q (.ref r) { s with heap := h', toks := tk' } := fun F N ho =>
    hQ _ _ _ (fun b o e => F.keep b o (k b o e)) ⟨_, N.get (.head _), ho⟩ (by
      cases e : s.heap.get? _ with
      | none => rfl
      | some o' => have := k _ _ e; rw [(N _ (.head _)).2.2] at this; cases this)
  cases hi with
  | nil =>
    (repeat' (first | (k_unfold; (try dsimp only)) | (k_end; wrow_close) | ((first | ((with_reducible show wpAny _ _ (call (Value.builtin "len") [Value.ref _]) _ _ _); refine PyProof.Rows.len_list (Fr.lst (by k_asm) (by assumption)) (by ktr_units) ?_; k_whole) | ((with_reducible show wpAny _ _ (spliced _) _ _ _); refine' args_plain ?qSS ?qFF ?qkk ?qPP ?_; (case qSS => rfl); (case qFF => k_asm); (case qkk => rfl); (case qPP => repeat' first | exact Plain.nil | (apply Plain.name; exact rfl; exact rfl; decide) | apply Plain.none | apply Plain.bool | apply Plain.int | apply Plain.str); k_whole; (try dsimp only [List.cons_append, List.nil_append])) | walk1) <;> first | (with_reducible show wpAny _ _ (subscriptTail _ (PySem.Expr.Slice _ _ _ _) _ _) _ _ _) | (try dsimp only)) | (dsimp only; walk1) | (leave1; try dsimp only) | fail "no step"))
    all_goals ((try dsimp only); (rename Fr _ _ _ _ => F; rename News _ _ _ _ => N))
    all_goals exact fin F N ⟨_, _, _, _, _, rfl⟩
  | cons n t hr =>
    (repeat' (first | (k_unfold; (try dsimp only)) | (k_end; wrow_close) | ((first | ((with_reducible show wpAny _ _ (call (Value.builtin "len") [Value.ref _]) _ _ _); refine PyProof.Rows.len_list (Fr.lst (by k_asm) (by assumption)) (by ktr_units) ?_; k_whole) | ((with_reducible show wpAny _ _ (spliced _) _ _ _); refine' args_plain ?qSS ?qFF ?qkk ?qPP ?_; (case qSS => rfl); (case qFF => k_asm); (case qkk => rfl); (case qPP => repeat' first | exact Plain.nil | (apply Plain.name; exact rfl; exact rfl; decide) | apply Plain.none | apply Plain.bool | apply Plain.int | apply Plain.str); k_whole; (try dsimp only [List.cons_append, List.nil_append])) | walk1) <;> first | (with_reducible show wpAny _ _ (subscriptTail _ (PySem.Expr.Slice _ _ _ _) _ _) _ _ _) | (try dsimp only)) | (dsimp only; walk1) | (leave1; try dsimp only) | fail "no step"))
    all_goals ((try dsimp only); (rename Fr _ _ _ _ => F; rename News _ _ _ _ => N))
    all_goals exact fin F N ⟨_, _, _, _, _, rfl⟩
end
section
variable {prog : Program} {w : World} {A : Around} {E : Value → Shared → Prop} {s : Shared}
theorem tups_eq {p q : Addr} {vs ws : List Value} (hu : A.units < cLine) (hp : IsTup s.heap p vs.toArray) (hq : IsTup s.heap q ws.toArray) (hl : vs.length = ws.length)
    (h : ∀ j (h1 : j < vs.length) (h2 : j < ws.length), SeqAt.EqAt A.in1 s vs[j] ws[j] true) : SeqAt.EqAt A s (.ref p) (.ref q) true := by
  by_cases e : p = q
  · subst e; exact SeqAt.EqAt.same _
  · refine SeqAt.EqAt.of_refs e ?_
    have x := SeqAt.RcAt.tuples (A := A) (s := s) (e := fun _ => true) hp hq hu (fun j a c => by simpa using h j (by simpa using a) (by simpa using c))
    have y : ((List.range (min vs.toArray.size ws.toArray.size)).all (fun _ => true) && vs.toArray.size == ws.toArray.size) = true := by simp [hl]
    rw [y] at x
    exact x
theorem pair_eq {p q : Addr} {b i : Int} {tb ti ub ui : Tok} (hu : A.units < cLine) (h1 : IsTup s.heap p #[.int b tb, .int i ti]) (h2 : IsTup s.heap q #[.int b ub, .int i ui]) : SeqAt.EqAt A s (.ref p) (.ref q) true :=
  tups_eq (vs := [_, _]) (ws := [_, _]) hu h1 h2 rfl (fun j a _ => by
    match j, a with
    | 0, _ => simpa using (SeqAt.EqAt.int_int (A := A.in1) (s := s) b tb b ub)
    | 1, _ => simpa using (SeqAt.EqAt.int_int (A := A.in1) (s := s) i ti i ui))
theorem pairsL_get {h : Heap} {vs : List Value} {ps : List (Int × Int)} (x : PairsL h vs ps) : ∀ (j : Nat) (hj : j < vs.length) (hj' : j < ps.length), ∃ p tb ti, vs[j] = .ref p ∧ IsTup h p #[.int ps[j].1 tb, .int ps[j].2 ti] := by
  induction x with
  | nil => intro j hj; exact absurd hj (Nat.not_lt_zero _)
  | cons e _ ih =>
    intro j hj hj'
    cases j with
    | zero => exact ⟨_, _, _, rfl, e⟩
    | succ j => exact ih j (by simpa using hj) (by simpa using hj')
theorem pairs_eq {v y : Value} {ps : List (Int × Int)} (hu : A.units + 1 < cLine) (h1 : PairsAt s.heap v ps) (h2 : PairsAt s.heap y ps) : SeqAt.EqAt A s v y true := by
  refine hide (fun P9 toP9 => ?_)
  obtain ⟨t, vs, rfl, a1, b1⟩ := h1
  obtain ⟨u, ws, rfl, a2, b2⟩ := h2
  (refine toP9 ?_; clear toP9 P9)
  refine tups_eq (by omega) a1 a2 (by rw [b1.len, b2.len]) fun j x1 x2 => ?_
  have hj : j < ps.length := by rw [← b1.len]; exact x1
  refine hide (fun P9 toP9 => ?_)
  obtain ⟨p, tb, ti, e1, f1⟩ := pairsL_get b1 j x1 hj
  obtain ⟨q, ub, ui, e2, f2⟩ := pairsL_get b2 j x2 hj
  (refine toP9 ?_; clear toP9 P9)
  rw [e1, e2]
  exact pair_eq (by rw [units_in1]; omega) f1 f2
/-- a dict's entries: what is at each pair of whole numbers -/
inductive ValsAre (h : Heap) : List (List Int × Addr × Value) → List ((Int × Int) × List (Int × Int)) → Prop
  | nil : ValsAre h [] []
  | cons {b i : Int} {a : Addr} {v : Value} {ps : List (Int × Int)} {xs es} (e : PairsAt h v ps) : ValsAre h xs es → ValsAre h (([b, i], a, v) :: xs) (((b, i), ps) :: es)
def DAt (prog : Program) (w : World) (h : Heap) (d : Addr) (es : List ((Int × Int) × List (Int × Int))) : Prop := (d == sysModules) = false ∧ ∃ xs, h.DictOfH (tupleKind (intKind prog w)) d xs ∧ ValsAre h xs es
theorem ValsAre.len {h : Heap} {xs es} (x : ValsAre h xs es) : xs.length = es.length := by
  induction x with
  | nil => rfl
  | cons _ _ ih => simp [ih]
theorem ValsAre.mono {h h' : Heap} (k : ∀ v ps, PairsAt h v ps → PairsAt h' v ps) {xs es} (x : ValsAre h xs es) : ValsAre h' xs es := by
  induction x with
  | nil => exact .nil
  | cons e _ ih => exact .cons (k _ _ e) ih
theorem ValsAre.append {h : Heap} {xs es ys fs} (x : ValsAre h xs es) (y : ValsAre h ys fs) : ValsAre h (xs ++ ys) (es ++ fs) := by
  induction x with
  | nil => exact y
  | cons e _ ih => exact .cons e ih
theorem ValsAre.get {h : Heap} {xs es} (x : ValsAre h xs es) : ∀ (j : Nat) k p, xs[j]? = some (k, p) → ∃ b i ps, k = [b, i] ∧ es[j]? = some ((b, i), ps) ∧ PairsAt h p.2 ps := by
  induction x with
  | nil => intro j k p e; simp at e
  | cons e _ ih =>
    intro j k p q
    cases j with
    | zero => simp at q; obtain ⟨rfl, rfl⟩ := q; exact ⟨_, _, _, rfl, rfl, e⟩
    | succ j => simpa using ih j k p (by simpa using q)
theorem ValsAre.find {h : Heap} {xs es} (x : ValsAre h xs es) : ∀ b i ps, ((b, i), ps) ∈ es → ∃ (j : Nat) (p : Addr × Value), xs[j]? = some ([b, i], p) ∧ PairsAt h p.2 ps := by
  induction x with
  | nil => intro b i ps e; cases e
  | cons e _ ih =>
    intro b i ps q
    rcases List.mem_cons.mp q with q | q
    · cases q; exact ⟨0, _, rfl, e⟩
    · obtain ⟨j, p, a, c⟩ := ih b i ps q
      exact ⟨j + 1, p, by simpa using a, c⟩
theorem dict_same {nm : String} {a b : Addr} {es fs : List ((Int × Int) × List (Int × Int))} {Q : Bool → Shared → Prop} (hu : A.units + 1 < cLine) (da : DAt prog w s.heap a es) (db : DAt prog w s.heap b fs)
    (hl : es.length = fs.length) (hsub : ∀ x ∈ es, x ∈ fs) (h : Q true s) :
    wpAny (model prog w) A (Builtin.Dict.samePairs nm a b) Q E s := by
  refine hide (fun P9 toP9 => ?_)
  obtain ⟨ha, xs, ⟨oa, ea, ep, hoa, _, hda, hea, hia, hna⟩, va⟩ := da
  obtain ⟨hb, ys, ⟨ob, eb, ep', hob, _, hdb, heb, hib, hnb⟩, vb⟩ := db
  (refine toP9 ?_; clear toP9 P9)
  have hla : ea.size = xs.length := size_of_entries hea
  have hlb : eb.size = ys.length := size_of_entries heb
  have hsz : ea.size = eb.size := by rw [hla, hlb, va.len, vb.len, hl]
  unfold Builtin.Dict.samePairs Builtin.Dict.showsAll
  rw [if_neg (show ¬ (a == sysModules) = true by rw [ha]; exact Bool.false_ne_true), if_neg (show ¬ (b == sysModules) = true by rw [hb]; exact Bool.false_ne_true)]
  refine wpAny_bind (wpAny_pure (wpAny_bind (wpAny_pure ?_)))
  refine wpAny_bind (wpAny_dictEntries hoa hda ?_)
  dsimp only
  refine wpAny_bind (wpAny_dictEntries hob hdb ?_)
  rw [if_neg (by rw [hsz]; simp)]
  refine wpAny_bind (wpAny_dictEpoch hoa hda ?_)
  refine wpAny_bind ?_
  rw [Std.Legacy.Range.forIn_eq_forIn_range']
  simp only [Std.Legacy.Range.size, Nat.sub_zero, Nat.add_sub_cancel, Nat.div_one]
  refine wpAny_forIn_list _ (fun rest q s' => s' = s ∧ q = (none, ()) ∧ ∃ i, rest = List.range' i (ea.size - i) ∧ i ≤ ea.size) _ ?_ ?_ _ _ ⟨rfl, rfl, 0, by simp, Nat.zero_le _⟩
  · rintro x rest q s' ⟨rfl, rfl, i, hr, hi⟩
    have hlt : i < ea.size := by
      rcases Nat.lt_or_ge i ea.size with h | h
      · exact h
      · rw [Nat.sub_eq_zero_of_le h] at hr; simp at hr
    refine hide (fun P9 toP9 => ?_)
    obtain ⟨rfl, hrest⟩ : x = i ∧ rest = List.range' (i + 1) (ea.size - (i + 1)) := by
      have e : ea.size - i = (ea.size - (i + 1)) + 1 := by omega
      rw [e, List.range'_succ] at hr
      injection hr with h1 h2
      exact ⟨h1, h2⟩
    (refine toP9 ?_; clear toP9 P9)
    refine wpAny_bind (wpAny_dictEntries hoa hda ?_)
    refine hide (fun P9 toP9 => ?_)
    obtain ⟨⟨k, p⟩, hxk⟩ : ∃ y, xs[x]? = some y := ⟨xs[x]'(by omega), List.getElem?_eq_getElem _⟩
    (refine toP9 ?_; clear toP9 P9)
    rw [entry_at hea x, hxk]
    refine hide (fun P9 toP9 => ?_)
    obtain ⟨b', i', ps, rfl, hes, hps⟩ := va.get x _ _ hxk
    obtain ⟨j, p', hyj, hps'⟩ := vb.find _ _ _ (hsub _ (List.mem_of_getElem? hes))
    (refine toP9 ?_; clear toP9 P9)
    have hkey := hia _ (List.mem_of_getElem? hxk)
    show wpAny _ _ (holding _ _ >>= _) _ _ _
    refine wpAny_bind (wpAny_holding (wpAny_bind (wpAny_dictFind_heap (knd := tupleKind (intKind prog w)) (by show A.units < cLine; omega) hkey hob hdb heb hib hnb ?_ ?_)))
    · intro hno; exact absurd hyj (hno j p')
    · intro j' p'' hj'
      refine hide (fun P9 toP9 => ?_)
      obtain rfl : j' = j := idxH_unique hnb hj' hyj
      (refine toP9 ?_; clear toP9 P9)
      rw [hyj] at hj'
      refine hide (fun P9 toP9 => ?_)
      obtain rfl : p' = p'' := by simpa using hj'
      (refine toP9 ?_; clear toP9 P9)
      refine wpAny_bind (wpAny_dictEntries hob hdb ?_)
      rw [entry_at heb j', hyj]
      refine wpAny_holding (pairs_eq hu hps hps' prog w _ _ ?_)
      show wpAny _ _ (if (!true) = true then _ else _) _ _ _
      rw [if_neg (by decide)]
      refine wpAny_bind (wpAny_dictEpoch hoa hda ?_)
      rw [if_neg (by simp)]
      exact wpAny_pure ⟨rfl, rfl, x + 1, hrest, hlt⟩
  · rintro q s' ⟨rfl, rfl, i, hr, hi⟩
    exact wpAny_pure h
theorem DAt.typeIs {d : Addr} {es} (x : DAt prog w s.heap d es) : s.TypeIs (.ref d) "dict" := let ⟨_, _, hm, _⟩ := x; hm.typeIs
theorem dict_eq {a b : Addr} {es fs : List ((Int × Int) × List (Int × Int))} {Q : Value → Shared → Prop} (hu : A.units + 4 < cLine) (da : DAt prog w s.heap a es) (db : DAt prog w s.heap b fs)
    (hl : es.length = fs.length) (hsub : ∀ x ∈ es, x ∈ fs) (h : Q (.bool true) s) :
    wpAny (model prog w) A (compareOp .Eq (.ref a) (.ref b)) Q E s := by
  refine wpAny_richCompare_same_room (op := .Eq) da.typeIs db.typeIs PySem.F.slot_dict_eq (wpAny_call_entry PySem.F.slot_dict_eq da.typeIs PySem.F.entry_dict_eq ?_ (PySem.F.args_dict_eq_2 _ _)) (by omega)
  show wpAny _ _ (Builtin.Dict.dictSlotArgs "__eq__" ⟨[.ref a, .ref b], []⟩ >>= _) _ _ s
  refine wpAny_bind ?_
  unfold Builtin.Dict.dictSlotArgs
  refine wpAny_bind (wpAny_notOrdered_dict da.typeIs ?_)
  show wpAny _ _ (pure (Value.ref a, Value.ref b)) _ _ s
  refine wpAny_pure ?_
  refine wpAny_bind (wpAny_isInstance (T := "dict") db.typeIs PySem.F.sub_dict_dict ?_)
  simp only [Bool.not_true, Bool.false_eq_true, if_false]
  refine wpAny_bind (wpAny_pure (wpAny_bind (wpAny_pure ?_)))
  refine wpAny_bind (dict_same (by simp only [units_in1]; omega) da db hl hsub ?_)
  refine wpAny_pure ⟨_, rfl, ?_, ?_⟩
  · exact fun x => nomatch x
  · simpa using h
theorem dict_ne {a b : Addr} {es fs : List ((Int × Int) × List (Int × Int))} {Q : Value → Shared → Prop} (hu : A.units + 4 < cLine) (da : DAt prog w s.heap a es) (db : DAt prog w s.heap b fs)
    (hl : es.length = fs.length) (hsub : ∀ x ∈ es, x ∈ fs) (h : Q (.bool false) s) :
    wpAny (model prog w) A (compareOp .NotEq (.ref a) (.ref b)) Q E s := by
  refine wpAny_richCompare_same_room (op := .NotEq) da.typeIs db.typeIs PySem.F.slot_dict_ne (wpAny_call_entry PySem.F.slot_dict_ne da.typeIs PySem.F.entry_dict_ne ?_ (PySem.F.args_dict_ne_2 _ _)) (by omega)
  show wpAny _ _ (Builtin.Dict.dictSlotArgs "__ne__" ⟨[.ref a, .ref b], []⟩ >>= _) _ _ s
  refine wpAny_bind ?_
  unfold Builtin.Dict.dictSlotArgs
  refine wpAny_bind (wpAny_notOrdered_dict da.typeIs ?_)
  show wpAny _ _ (pure (Value.ref a, Value.ref b)) _ _ s
  refine wpAny_pure ?_
  refine wpAny_bind (wpAny_isInstance (T := "dict") db.typeIs PySem.F.sub_dict_dict ?_)
  simp only [Bool.not_true, Bool.false_eq_true, if_false]
  refine wpAny_bind (wpAny_pure (wpAny_bind (wpAny_pure ?_)))
  refine wpAny_bind (dict_same (by simp only [units_in1]; omega) da db hl hsub ?_)
  refine wpAny_pure ⟨_, rfl, ?_, ?_⟩
  · exact fun x => nomatch x
  · simpa using h
end
section
variable {prog : Program} {w : World} {A : Around} {E : Value → Shared → Prop} {s : Shared} {g h h' : Heap} {L d : Addr} {m : Str → Option Value} {es : List ((Int × Int) × List (Int × Int))}
theorem seq_ne_ns {a : Addr} {o : Obj} {items : Array Value} {n : Nat} (F : Fr g L h m) (e : h.get? a = some o) (hd : o.data = .seq items n) : a ≠ L := by
  rintro rfl
  refine hide (fun P9 toP9 => ?_)
  obtain ⟨o', es, ep, ho, hd', _⟩ := F.ns
  (refine toP9 ?_; clear toP9 P9)
  rw [e] at ho; cases ho
  rw [hd] at hd'; cases hd'
theorem tup_keeps {a : Addr} {items : Array Value} (F : Fr g L h m) (k : ∀ b o, h.get? b = some o → b ≠ L → isFields o = false → h'.get? b = some o) (x : IsTup h a items) : IsTup h' a items := by
  refine hide (fun P9 toP9 => ?_)
  obtain ⟨o, ho, hc, n, hd⟩ := x
  (refine toP9 ?_; clear toP9 P9)
  exact ⟨o, k _ _ ho (seq_ne_ns F ho hd) (by unfold isFields; rw [hd]), hc, n, hd⟩
theorem pairsL_keeps {vs : List Value} {ps : List (Int × Int)} (F : Fr g L h m) (k : ∀ b o, h.get? b = some o → b ≠ L → isFields o = false → h'.get? b = some o) (x : PairsL h vs ps) : PairsL h' vs ps := by
  induction x with
  | nil => exact .nil
  | cons e _ ih => exact .cons (tup_keeps F k e) ih
theorem pairs_keeps {v : Value} {ps : List (Int × Int)} (F : Fr g L h m) (k : ∀ b o, h.get? b = some o → b ≠ L → isFields o = false → h'.get? b = some o) (x : PairsAt h v ps) : PairsAt h' v ps := let ⟨t, vs, e, a, b⟩ := x; ⟨t, vs, e, tup_keeps F k a, pairsL_keeps F k b⟩
theorem dat_keeps (F : Fr g L h m) (hL : d ≠ L) (k : ∀ b o, h.get? b = some o → b ≠ L → isFields o = false → h'.get? b = some o) (x : DAt prog w h d es) : DAt prog w h' d es := by
  refine hide (fun P9 toP9 => ?_)
  obtain ⟨hs, xs, ⟨o, ee, ep, ho, hc, hd, he, hi, hn⟩, hv⟩ := x
  (refine toP9 ?_; clear toP9 P9)
  refine ⟨hs, xs, ⟨o, ee, ep, k _ _ ho hL (by unfold isFields; rw [hd]), hc, hd, he, fun y hy => ?_, hn⟩, hv.mono fun v ps => pairs_keeps F k⟩
  refine hide (fun P9 toP9 => ?_)
  obtain ⟨oa, items, n, hoa, hca, hda, hia⟩ := hi y hy
  (refine toP9 ?_; clear toP9 P9)
  exact ⟨oa, items, n, k _ _ hoa (seq_ne_ns F hoa hda) (by unfold isFields; rw [hda]), hca, hda, hia⟩
theorem pairs_same {v : Value} {ps : List (Int × Int)} {o : Obj} {ee ep} (ho : h.get? d = some o) (hd : o.data = .dict ee ep) (hs : Heap.SameBut d h h') (x : PairsAt h v ps) : PairsAt h' v ps := by
  have kt : ∀ {a : Addr} {items : Array Value}, IsTup h a items → IsTup h' a items := by
    rintro a items ⟨oa, hoa, hc, n, hda⟩
    refine ⟨oa, hs.extBut _ _ (fun q => ?_) hoa, hc, n, hda⟩
    subst q
    rw [ho] at hoa; cases hoa
    rw [hd] at hda; cases hda
  refine hide (fun P9 toP9 => ?_)
  obtain ⟨t, vs, e, a, b⟩ := x
  (refine toP9 ?_; clear toP9 P9)
  refine ⟨t, vs, e, kt a, ?_⟩
  clear a
  induction b with
  | nil => exact .nil
  | cons e _ ih => exact .cons (kt e) (ih)
theorem atKey_fresh {h : Heap} {xs es} (x : ValsAre h xs es) {b i : Int} (hn : (b, i) ∉ es.map Prod.fst) : atKey xs [b, i] = none := by
  refine atKey_none_of_get fun j p q => ?_
  refine hide (fun P9 toP9 => ?_)
  obtain ⟨b', i', ps, e1, e2, -⟩ := x.get j _ _ q
  (refine toP9 ?_; clear toP9 P9)
  simp only [List.cons.injEq, and_true] at e1
  refine hide (fun P9 toP9 => ?_)
  obtain ⟨rfl, rfl⟩ := e1
  (refine toP9 ?_; clear toP9 P9)
  exact hn (List.mem_map.mpr ⟨_, List.mem_of_getElem? e2, rfl⟩)
/-- a new entry -/
theorem dat_set {a : Addr} {b i : Int} {tb ti : Tok} {v : Value} {ps : List (Int × Int)} {Q : Unit → Shared → Prop} (hu : A.units + 1 < cLine) (hD : DAt prog w s.heap d es) (ha : IsTup s.heap a #[.int b tb, .int i ti]) (hv : PairsAt s.heap v ps)
    (hn : (b, i) ∉ es.map Prod.fst) (hl : es.length < 1000) (h : ∀ h' tk', DAt prog w h' d (es ++ [((b, i), ps)]) → Heap.SameBut d s.heap h' → Q () { s with heap := h', toks := tk' }) :
    wpAny (model prog w) A (setItem (.ref d) (.ref a) v) Q E s := by
  refine hide (fun P9 toP9 => ?_)
  obtain ⟨hs, xs, hm, hx⟩ := hD
  (refine toP9 ?_; clear toP9 P9)
  have hkey : (tupleKind (intKind prog w)).is s.heap [b, i] a := by
    obtain ⟨o, ho, hc, n, hd⟩ := ha
    exact ⟨o, _, n, ho, hc, hd, .cons (by simp [intKind, Value.isInt]) (.cons (by simp [intKind, Value.isInt]) .nil)⟩
  refine wpAny_setItem_heap (knd := tupleKind (intKind prog w)) (by show A.in1.units < cLine; rw [units_in1]; exact hu) hkey hm (fun h' hm' hs' => ?_) (by rw [hx.len]; unfold sizeLine; omega)
  refine hide (fun P9 toP9 => ?_)
  obtain ⟨o, ee, ep, ho, _, hd, _⟩ := id hm
  (refine toP9 ?_; clear toP9 P9)
  refine h h' _ ⟨hs, _, hm', ?_⟩ hs'
  rw [storedH_new (atKey_fresh hx hn)]
  exact (hx.mono fun v ps => pairs_same ho hd hs').append (.cons (pairs_same ho hd hs' hv) .nil)
theorem dat_new {h : Heap} (hb : (h.objs.size == sysModules) = false) : DAt prog w (h.push { cls := .type "dict", data := .dict #[] }) h.objs.size [] :=
  ⟨hb, [], ⟨_, #[], _, Heap.get?_push_size _ rfl, ⟨rfl, rfl, rfl⟩, rfl, rfl, fun _ q => (nomatch q), .nil⟩, .nil⟩
theorem dat_of {o : Obj} {news : List (Addr × Obj)} (N : News g L h ((d, o) :: news)) (hs : (d == sysModules) = false) (hD : Obj.IsDictOf (intKind prog w) o []) : DAt prog w h d [] ∧ d ≠ L ∧ g.get? d = none := by
  refine hide (fun P9 toP9 => ?_)
  obtain ⟨e1, e2, e3⟩ := N _ (.head _)
  obtain ⟨ee, ep, hc, hdd, _, hp, _⟩ := hD
  (refine toP9 ?_; clear toP9 P9)
  have h0 : ee.toList = [] := List.length_eq_zero_iff.mp hp.length
  exact ⟨⟨hs, [], ⟨o, ee, ep, e1, hc, hdd, h0, fun _ q => (nomatch q), .nil⟩, .nil⟩, e2, e3⟩
end
/-- how many statements each block has -/
def LensAt (h : Heap) (bvs : List Value) (cs : List Nat) : Prop := bvs.length = cs.length ∧ cs.length ≤ 4 ∧ (∀ c ∈ cs, c ≤ 3) ∧ ∀ (i : Nat) (v : Value), bvs[i]? = some v → ∃ bk sl tv svs, v = .ref bk ∧ h.IsList bk #[.ref sl, tv] ∧ h.IsList sl (List.toArray svs) ∧ cs[i]? = some svs.length
/-- facts at the starts of blocks -/
def FactsAt (h : Heap) (fvs : List Value) (fs : List (Option (List (Int × Int)))) : Prop := fvs.length = fs.length ∧ (∀ f ∈ fs, ∀ ps, f = some ps → ps.length ≤ 2) ∧ ∀ (i : Nat) (v : Value), fvs[i]? = some v → (v = .none ∧ fs[i]? = some none) ∨ ∃ ps, PairsAt h v ps ∧ fs[i]? = some (some ps)
theorem LensAt.mono {h h' : Heap} (k : ∀ b o, h.get? b = some o → h'.get? b = some o) {bvs : List Value} {cs : List Nat} (x : LensAt h bvs cs) : LensAt h' bvs cs :=
  ⟨x.1, x.2.1, x.2.2.1, fun i v e => let ⟨bk, sl, tv, svs, a, b, c, d⟩ := x.2.2.2 i v e; ⟨bk, sl, tv, svs, a, b.at (k _), c.at (k _), d⟩⟩
theorem FactsAt.mono {h h' : Heap} (k : ∀ b o, h.get? b = some o → h'.get? b = some o) {fvs : List Value} {fs} (x : FactsAt h fvs fs) : FactsAt h' fvs fs :=
  ⟨x.1, x.2.1, fun i v e => (x.2.2 i v e).imp id fun ⟨ps, a, b⟩ => ⟨ps, a.mono k, b⟩⟩
def pts (b : Nat) (n : Nat) : List (Int × Int) := (List.range n).map fun (j : Nat) => ((b : Int), (j : Int))
def blockE (b : Nat) (ps : List (Int × Int)) (n : Nat) : List ((Int × Int) × List (Int × Int)) := (List.range n).map fun (i : Nat) => (((b : Int), (i : Int)), ps ++ pts b i)
def rowE (cs : List Nat) (fs : List (Option (List (Int × Int)))) (b : Nat) : List ((Int × Int) × List (Int × Int)) := match fs[b]? with | some (some ps) => blockE b ps (cs.getD b 0 + 1) | _ => []
def afE (cs : List Nat) (fs : List (Option (List (Int × Int)))) (k : Nat) : List ((Int × Int) × List (Int × Int)) := (List.range k).flatMap (rowE cs fs)
theorem pts_succ (b n : Nat) : pts b (n + 1) = pts b n ++ [((b : Int), (n : Int))] := by simp [pts, List.range_succ]
theorem blockE_succ (b : Nat) (ps) (n : Nat) : blockE b ps (n + 1) = blockE b ps n ++ [(((b : Int), (n : Int)), ps ++ pts b n)] := by simp [blockE, List.range_succ]
theorem afE_succ (cs fs k) : afE cs fs (k + 1) = afE cs fs k ++ rowE cs fs k := by simp [afE, List.range_succ]
theorem blockE_keys {b : Nat} {ps} {n : Nat} {p : Int × Int} (h : p ∈ (blockE b ps n).map Prod.fst) : p.1 = b ∧ p.2 < n := by
  simp only [blockE, List.map_map, List.mem_map, List.mem_range] at h
  obtain ⟨i, hi, rfl⟩ := h
  exact ⟨rfl, by simpa using hi⟩
theorem afE_keys {cs fs} {k : Nat} {p : Int × Int} (h : p ∈ (afE cs fs k).map Prod.fst) : p.1 < k := by
  simp only [afE, List.map_flatMap, List.mem_flatMap, List.mem_range] at h
  obtain ⟨b, hb, h⟩ := h
  unfold rowE at h
  split at h
  · have := (blockE_keys h).1; omega
  · cases h
theorem blockE_len (b ps n) : (blockE b ps n).length = n := by simp [blockE]
theorem afE_len {cs : List Nat} {fs} (hc : ∀ c ∈ cs, c ≤ 3) : ∀ k, (afE cs fs k).length ≤ 4 * k
  | 0 => by simp [afE]
  | k + 1 => by
    rw [afE_succ, List.length_append]
    have h1 := afE_len (fs := fs) hc k
    have h2 : cs.getD k 0 ≤ 3 := by
      rw [List.getD_eq_getElem?_getD]
      cases e : cs[k]? with
      | none => simp
      | some c => exact hc c (List.mem_of_getElem? e)
    unfold rowE
    split
    · rw [blockE_len]; omega
    · simp; omega
theorem fresh_key {cs fs} {k : Nat} {ps} {i : Nat} : ((k : Int), (i : Int)) ∉ (afE cs fs k ++ blockE k ps i).map Prod.fst := by
  rw [List.map_append, List.mem_append]
  rintro (h | h)
  · have := afE_keys h; simp at this
  · have := (blockE_keys h).2; simp at this
theorem pairs_set {prog : Program} {w : World} {h h' : Heap} {d : Addr} {es} {v : Value} {ps : List (Int × Int)} (hD : DAt prog w h d es) (hs : Heap.SameBut d h h') (x : PairsAt h v ps) : PairsAt h' v ps := by
  obtain ⟨_, xs, ⟨o, ee, ep, ho, _, hd, _⟩, _⟩ := hD
  exact pairs_same ho hd hs x
theorem keepIt_set {prog : Program} {w : World} {h h' : Heap} {d : Addr} {es} (hD : DAt prog w h d es) (hs : Heap.SameBut d h h') : KeepIt h h' := by
  obtain ⟨_, xs, ⟨o, ee, ep, ho, _, hd, _⟩, _⟩ := hD
  intro b ob e hf
  refine hs.extBut _ _ (fun q => ?_) e
  subst q
  rw [ho] at e; cases e
  unfold isFields at hf; rw [hd] at hf; cases hf
theorem AgreeOff.form1 {n : Str} {l : List Str} {m₀ m : Str → Option Value} {v : Value} (h : AgreeOff (n :: l) m₀ m) (e : m n = some v) : m = fun y => if y = n then some v else pick l m m₀ y := by
  funext y
  have := congrFun h.form y
  rw [this]
  show (if y = n then m n else pick l m m₀ y) = _
  rw [e]
section
variable {w : World} {mean : ExcName → Option Value} {mg mb : Str → Option Value} {g : Heap} {L : Addr} {m : Str → Option Value} {news : List (Addr × Obj)} {s : Shared} {dp un : Nat} {gd : Option (List Code)} {fr : Option (List Env)} {f : Value} {ps : List (Int × Int)} {Q E : Value → Shared → Prop}
theorem step_use {b i : Int} {tb ti : Tok} (F : Fr g L s.heap m) (X : (Mine.hd.heap_1 w.params).In g) (T : Top Mine.vw (looseW Mine.vw []) mean mg mb g) (N : News g L s.heap news) (hf : PairsAt s.heap f ps) (hl : ps.length < 1000)
    (hd : dp + 1 < recursionLimit) (hu : un + 100 < cLine)
    (ret : ∀ v h' tk', (∀ b o, s.heap.get? b = some o → h'.get? b = some o) → Fr g L h' m → News g L h' news → PairsAt h' v (ps ++ [(b, i)]) → Q v { s with heap := h', toks := tk' }) :
    wpAny (model PySem.Challenge.pw_xm0585_01 w) (arnd dp un gd fr) (call (.ref 194) [f, .int b tb, .int i ti]) Q E s :=
  step_ok X T F.keep hd hu hf hl fun v h' tk' k hv => ret v h' tk' k ⟨F.ns.keeps k, fun b o e => k b o (F.keep b o e), F.above⟩ (N.keeps k) hv
end
theorem none_of {h g : Heap} {d : Addr} (k : ∀ b o, h.get? b = some o → g.get? b = some o) (e : g.get? d = none) : h.get? d = none := by
  cases q : h.get? d with
  | none => rfl
  | some o => have := k d o q; rw [e] at this; cases this
theorem small_to {n : Nat} (h : n ≤ 10) : Builtin.Range.small 0 (n : Int) 1 = true := (show ∀ k, k < 11 → Builtin.Range.small 0 ((k : Nat) : Int) 1 = true by decide) n (by omega)
theorem size_to (n : Nat) : Builtin.Range.rangeSize 0 (n : Int) 1 = (n : Int) := by
  simp [Builtin.Range.rangeSize]
  intro h; omega
set_option maxRecDepth 100000 in
set_option maxHeartbeats 2000000 in
theorem all_facts_ok {w : World} {mean : ExcName → Option Value} {mg mb : Str → Option Value} {h₀ : Heap} {s : Shared} {dp un : Nat} {gd : Option (List Code)} {fr : Option (List Env)} {body bl fl : Addr} {bvs fvs : List Value} {cs : List Nat} {fs : List (Option (List (Int × Int)))} {Q E : Value → Shared → Prop}
    (X : (Mine.hd.heap_1 w.params).In h₀) (T : Top Mine.vw (looseW Mine.vw []) mean mg mb h₀) (st0 : h₀.StaysIn s.heap)
    (hd : dp + 2 < recursionLimit) (hu : un + 110 < cLine)
    (hB : BodyAt s.heap body bl) (hbl : s.heap.IsList bl bvs.toArray) (hL : LensAt s.heap bvs cs) (hfl : s.heap.IsList fl fvs.toArray) (hF : FactsAt s.heap fvs fs) (hlen : cs.length = fs.length)
    (hQ : ∀ r h' tk', s.heap.get? r = none → s.heap.StaysIn h' → DAt PySem.Challenge.pw_xm0585_01 w h' r (afE cs fs cs.length) → Q (.ref r) { s with heap := h', toks := tk' }) :
    wpAny (model PySem.Challenge.pw_xm0585_01 w) (arnd dp un gd fr) (call (.ref 98) [.ref body, .ref fl, .ref 194]) Q E s := by
  refine' enter (news := []) X T st0 (fun _ h => nomatch h) (fun _ h => nomatch h) ?ho ?hcd ?hroom ?hbind ?hloc ?_ ?c2 ?c3 ?c4 ?c5
  ((case ho => k_dflt k_is); (case hcd => k_dflt k_is); (case hroom => ktr_room); (case hbind => exact BindsTo.of_eq rfl); (case c2 => decide); (case c3 => exact rfl); (case c4 => exact rfl); (case c5 => exact rfl); (case hloc => exact locs rfl))
  intro g L' h₁' st1 st2 keep F' N' X' T' nL l1 d' u' fr' hd' hu'
  change Fr _ _ _ (fun y => List.lookup y [(_, _), (_, _), (_, _)]) at F'
  have k : ∀ b o, s.heap.get? b = some o → g.get? b = some o := fun b o e => keep b o e (fun h => nomatch h)
  replace hB := hB.mono k; replace hbl := hbl.at (k bl); replace hL := hL.mono k; replace hfl := hfl.at (k fl); replace hF := hF.mono k
  clear l1
  refine hide (fun P9 toP9 => ?_)
  obtain ⟨dx, k1, k2, k3, k4, k5, t1, t2, t3, t4, t5, v1, v2, v3, v5, nb, hb1, hb2⟩ := hB
  (refine toP9 ?_; clear toP9 P9)
  (try dsimp only)
  have hbz : bvs.length ≤ 4 := by rw [hL.1]; exact hL.2.1
  (repeat' ((fail_if_success (with_reducible refine stop_at (by first | (constructor; done) | exact .call (by decide)) ?_)); first | (k_unfold; (try dsimp only)) | (k_end; wrow_close) | ((first | ((with_reducible show wpAny _ _ (subscriptTail _ _ (Value.ref _) (Value.int _ _)) _ _ _); first | (refine item_tupleT (Fr.tup (by k_asm) (by assumption)) (by decide) (by decide) (by rfl) (by rfl) ?_; k_whole) | ((with_reducible show wpAny _ _ (subscriptTail _ _ (Value.ref _) (Value.int 0 _)) _ _ _); refine itemT_head (by k_asm) (by assumption) ?_; k_whole) | (refine itemL_at (by k_asm) (by assumption) (by first | assumption | rfl) (by ktr_units) (by ktr_units) ?_; k_whole)) | ((with_reducible show wpAny _ _ (call (Value.builtin "len") [Value.ref _]) _ _ _); refine PyProof.Rows.len_list (Fr.lst (by k_asm) (by assumption)) (by ktr_units) ?_; k_whole) | ((with_reducible show wpAny _ _ (spliced _) _ _ _); refine' args_plain ?qSS ?qFF ?qkk ?qPP ?_; (case qSS => rfl); (case qFF => k_asm); (case qkk => rfl); (case qPP => repeat' first | exact Plain.nil | (apply Plain.name; exact rfl; exact rfl; decide) | apply Plain.none | apply Plain.bool | apply Plain.int | apply Plain.str); k_whole; (try dsimp only [List.cons_append, List.nil_append])) | walk1) <;> first | (with_reducible show wpAny _ _ (subscriptTail _ (PySem.Expr.Slice _ _ _ _) _ _) _ _ _) | (try dsimp only)) | (dsimp only; walk1) | (leave1; try dsimp only) | fail "no step"))
  refine wpAny_For ?_ (by intro _; rfl)
  (repeat' ((fail_if_success (with_reducible refine stop_at (by first | (constructor; done) | exact .call (by decide)) ?_)); first | (k_unfold; (try dsimp only)) | (k_end; wrow_close) | ((first | ((with_reducible show wpAny _ _ (subscriptTail _ _ (Value.ref _) (Value.int _ _)) _ _ _); first | (refine item_tupleT (Fr.tup (by k_asm) (by assumption)) (by decide) (by decide) (by rfl) (by rfl) ?_; k_whole) | ((with_reducible show wpAny _ _ (subscriptTail _ _ (Value.ref _) (Value.int 0 _)) _ _ _); refine itemT_head (by k_asm) (by assumption) ?_; k_whole) | (refine itemL_at (by k_asm) (by assumption) (by first | assumption | rfl) (by ktr_units) (by ktr_units) ?_; k_whole)) | ((with_reducible show wpAny _ _ (call (Value.builtin "len") [Value.ref _]) _ _ _); refine PyProof.Rows.len_list (Fr.lst (by k_asm) (by assumption)) (by ktr_units) ?_; k_whole) | ((with_reducible show wpAny _ _ (spliced _) _ _ _); refine' args_plain ?qSS ?qFF ?qkk ?qPP ?_; (case qSS => rfl); (case qFF => k_asm); (case qkk => rfl); (case qPP => repeat' first | exact Plain.nil | (apply Plain.name; exact rfl; exact rfl; decide) | apply Plain.none | apply Plain.bool | apply Plain.int | apply Plain.str); k_whole; (try dsimp only [List.cons_append, List.nil_append])) | walk1) <;> first | (with_reducible show wpAny _ _ (subscriptTail _ (PySem.Expr.Slice _ _ _ _) _ _) _ _ _) | (try dsimp only)) | (dsimp only; walk1) | (leave1; try dsimp only) | fail "no step"))
  rename IsRange _ _ _ _ _ _ _ _ => hR; rename Fr _ _ _ _ => F₀; rename News _ _ _ _ => N₀; rename (_ == sysModules) = false => hds; rename Obj.IsDictOf (intKind _ _) _ _ => hD0
  refine hide (fun P9 toP9 => ?_)
  obtain ⟨dat0, hdL, hdg⟩ := dat_of N₀ hds hD0
  (refine toP9 ?_; clear toP9 P9)
  clear hds hD0
  refine range_H (n := bvs.length) (fun b m h => AgreeOff [Str.ofString "here", Str.ofString "block", Str.ofString "index"] _ m ∧ DAt PySem.Challenge.pw_xm0585_01 w h _ (afE cs fs b)) rfl hR ?sm ?sz rfl rfl F₀ ⟨.refl, dat0⟩ ?stab ?step ?done
  case sm => exact small_to (n := bvs.length) (by omega)
  case sz => exact size_to _
  case stab => exact fun b m h h' F hJ ko => ⟨hJ.1, dat_keeps F hdL (fun a o e ha hf => ko a o e ha (.inl hf)) hJ.2⟩
  case done =>
    intro m' h' tk' hJ F'
    rw [AgreeOff.form hJ.1] at F'
    have hD := hJ.2
    clear F₀ N₀ hJ
    (try dsimp only)
    refine hide (fun P9 toP9 => ?_)
    obtain ⟨D1, N1, -, hD1⟩ := refresh F' News.nil
    (refine toP9 ?_; clear toP9 P9)
    have kf : ∀ h2 m2 news2, Fr g L' h2 m2 → News g L' h2 news2 → (∀ p ∈ D1, p ∈ news2) → DAt PySem.Challenge.pw_xm0585_01 w h2 _ (afE cs fs bvs.length) := fun _ _ _ a b c => dat_keeps F' hdL (fun x o e hx _ => keepAll_of hD1 a b c x o e hx) hD
    clear hD1
    (repeat' (first | (k_unfold; (try dsimp only)) | (k_end; wrow_close) | ((first | ((with_reducible show wpAny _ _ (subscriptTail _ _ (Value.ref _) (Value.int _ _)) _ _ _); first | (refine item_tupleT (Fr.tup (by k_asm) (by assumption)) (by decide) (by decide) (by rfl) (by rfl) ?_; k_whole) | ((with_reducible show wpAny _ _ (subscriptTail _ _ (Value.ref _) (Value.int 0 _)) _ _ _); refine itemT_head (by k_asm) (by assumption) ?_; k_whole) | (refine itemL_at (by k_asm) (by assumption) (by first | assumption | rfl) (by ktr_units) (by ktr_units) ?_; k_whole)) | ((with_reducible show wpAny _ _ (call (Value.builtin "len") [Value.ref _]) _ _ _); refine PyProof.Rows.len_list (Fr.lst (by k_asm) (by assumption)) (by ktr_units) ?_; k_whole) | ((with_reducible show wpAny _ _ (spliced _) _ _ _); refine' args_plain ?qSS ?qFF ?qkk ?qPP ?_; (case qSS => rfl); (case qFF => k_asm); (case qkk => rfl); (case qPP => repeat' first | exact Plain.nil | (apply Plain.name; exact rfl; exact rfl; decide) | apply Plain.none | apply Plain.bool | apply Plain.int | apply Plain.str); k_whole; (try dsimp only [List.cons_append, List.nil_append])) | walk1) <;> first | (with_reducible show wpAny _ _ (subscriptTail _ (PySem.Expr.Slice _ _ _ _) _ _) _ _ _) | (try dsimp only)) | (dsimp only; walk1) | (leave1; try dsimp only) | fail "no step"))
    (try dsimp only)
    rename Fr _ _ _ _ => F; rename News _ _ _ _ => N
    exact hQ _ _ _ (none_of k hdg) (fun b o e => F.keep b o (k b o e)) (hL.1 ▸ kf _ _ _ F N (fun _ h => h))
  case step =>
    intro i t' m₁ h tk hi hJ F₁
    rw [show (0 + (i : Int) * 1) = (i : Int) by omega] at F₁
    rw [AgreeOff.form hJ.1] at F₁
    have hfz : i < fvs.length := by have := hF.1; have := hL.1; omega
    refine hide (fun P9 toP9 => ?_)
    obtain ⟨v, hv⟩ : ∃ v, fvs[i]? = some v := ⟨fvs[i], List.getElem?_eq_getElem hfz⟩
    obtain ⟨bv, hbv⟩ : ∃ v, bvs[i]? = some v := ⟨bvs[i], List.getElem?_eq_getElem hi⟩
    obtain ⟨bk, sl, tv, svs, rfl, e1, e2, e3⟩ := hL.2.2.2 i _ hbv
    have hsz : svs.length ≤ 3 := hL.2.2.1 _ (List.mem_of_getElem? e3)
    have hbv' : bvs[(i : Int).toNat]? = some (.ref bk) := by simpa using hbv
    have hv' : fvs[(i : Int).toNat]? = some v := by simpa using hv
    have hD := hJ.2
    obtain ⟨D, N, -, hD1⟩ := refresh F₁ News.nil
    (refine toP9 ?_; clear toP9 P9)
    have kk : ∀ h' m' news', Fr g L' h' m' → News g L' h' news' → (∀ p ∈ D, p ∈ news') → ∀ b o, h.get? b = some o → b ≠ L' → h'.get? b = some o := fun _ _ _ a b c => keepAll_of hD1 a b c
    have ki := fun h' => keepIt_all (h' := h') F₁
    have kd := fun h' (q : ∀ b o, h.get? b = some o → b ≠ L' → h'.get? b = some o) => dat_keeps (h' := h') F₁ hdL (fun x o e hx _ => q x o e hx) hD
    clear hD1 F₀ N₀ hJ hv hbv
    rcases hF.2.2 i v (by simpa using hv') with ⟨rfl, ef⟩ | ⟨ps, hps, ef⟩
    · (try dsimp only)
      (repeat' ((fail_if_success (with_reducible refine stop_at (by first | (constructor; done) | exact .call (by decide)) ?_)); first | (k_unfold; (try dsimp only)) | (k_end; wrow_close) | ((first | ((with_reducible show wpAny _ _ (subscriptTail _ _ (Value.ref _) (Value.int _ _)) _ _ _); first | (refine item_tupleT (Fr.tup (by k_asm) (by assumption)) (by decide) (by decide) (by rfl) (by rfl) ?_; k_whole) | ((with_reducible show wpAny _ _ (subscriptTail _ _ (Value.ref _) (Value.int 0 _)) _ _ _); refine itemT_head (by k_asm) (by assumption) ?_; k_whole) | (refine itemL_at (by k_asm) (by assumption) (by first | assumption | rfl) (by ktr_units) (by ktr_units) ?_; k_whole)) | ((with_reducible show wpAny _ _ (call (Value.builtin "len") [Value.ref _]) _ _ _); refine PyProof.Rows.len_list (Fr.lst (by k_asm) (by assumption)) (by ktr_units) ?_; k_whole) | ((with_reducible show wpAny _ _ (spliced _) _ _ _); refine' args_plain ?qSS ?qFF ?qkk ?qPP ?_; (case qSS => rfl); (case qFF => k_asm); (case qkk => rfl); (case qPP => repeat' first | exact Plain.nil | (apply Plain.name; exact rfl; exact rfl; decide) | apply Plain.none | apply Plain.bool | apply Plain.int | apply Plain.str); k_whole; (try dsimp only [List.cons_append, List.nil_append])) | walk1) <;> first | (with_reducible show wpAny _ _ (subscriptTail _ (PySem.Expr.Slice _ _ _ _) _ _) _ _ _) | (try dsimp only)) | (dsimp only; walk1) | (leave1; try dsimp only) | fail "no step"))
      (try dsimp only)
      rename Fr _ _ _ _ => F; rename News _ _ _ _ => N
      have q := kk _ _ _ F N (fun _ h => h)
      refine ⟨_, _, _, rfl, F, ki _ q, ?_, ?_⟩
      · intro y hy
        simp only [List.mem_cons, List.not_mem_nil, or_false, not_or] at hy
        simp only [pick, hy, if_false]
      · rw [afE_succ, rowE, ef]
        simpa using kd _ q
    · obtain ⟨ft, fw, rfl, hft, hfw⟩ := id hps
      (try dsimp only)
      (repeat' ((fail_if_success (with_reducible refine stop_at (by first | (constructor; done) | exact .call (by decide)) ?_)); first | (k_unfold; (try dsimp only)) | (k_end; wrow_close) | ((first | ((with_reducible show wpAny _ _ (subscriptTail _ _ (Value.ref _) (Value.int _ _)) _ _ _); first | (refine item_tupleT (Fr.tup (by k_asm) (by assumption)) (by decide) (by decide) (by rfl) (by rfl) ?_; k_whole) | ((with_reducible show wpAny _ _ (subscriptTail _ _ (Value.ref _) (Value.int 0 _)) _ _ _); refine itemT_head (by k_asm) (by assumption) ?_; k_whole) | (refine itemL_at (by k_asm) (by assumption) (by first | assumption | rfl) (by ktr_units) (by ktr_units) ?_; k_whole)) | ((with_reducible show wpAny _ _ (call (Value.builtin "len") [Value.ref _]) _ _ _); refine PyProof.Rows.len_list (Fr.lst (by k_asm) (by assumption)) (by ktr_units) ?_; k_whole) | ((with_reducible show wpAny _ _ (spliced _) _ _ _); refine' args_plain ?qSS ?qFF ?qkk ?qPP ?_; (case qSS => rfl); (case qFF => k_asm); (case qkk => rfl); (case qPP => repeat' first | exact Plain.nil | (apply Plain.name; exact rfl; exact rfl; decide) | apply Plain.none | apply Plain.bool | apply Plain.int | apply Plain.str); k_whole; (try dsimp only [List.cons_append, List.nil_append])) | walk1) <;> first | (with_reducible show wpAny _ _ (subscriptTail _ (PySem.Expr.Slice _ _ _ _) _ _) _ _ _) | (try dsimp only)) | (dsimp only; walk1) | (leave1; try dsimp only) | fail "no step"))
      refine wpAny_For ?_ (by intro _; rfl)
      (repeat' ((fail_if_success (with_reducible refine stop_at (by first | (constructor; done) | exact .call (by decide)) ?_)); first | (k_unfold; (try dsimp only)) | (k_end; wrow_close) | ((first | ((with_reducible show wpAny _ _ (subscriptTail _ _ (Value.ref _) (Value.int _ _)) _ _ _); first | (refine item_tupleT (Fr.tup (by k_asm) (by assumption)) (by decide) (by decide) (by rfl) (by rfl) ?_; k_whole) | ((with_reducible show wpAny _ _ (subscriptTail _ _ (Value.ref _) (Value.int 0 _)) _ _ _); refine itemT_head (by k_asm) (by assumption) ?_; k_whole) | (refine itemL_at (by k_asm) (by assumption) (by first | assumption | rfl) (by ktr_units) (by ktr_units) ?_; k_whole)) | ((with_reducible show wpAny _ _ (call (Value.builtin "len") [Value.ref _]) _ _ _); refine PyProof.Rows.len_list (Fr.lst (by k_asm) (by assumption)) (by ktr_units) ?_; k_whole) | ((with_reducible show wpAny _ _ (spliced _) _ _ _); refine' args_plain ?qSS ?qFF ?qkk ?qPP ?_; (case qSS => rfl); (case qFF => k_asm); (case qkk => rfl); (case qPP => repeat' first | exact Plain.nil | (apply Plain.name; exact rfl; exact rfl; decide) | apply Plain.none | apply Plain.bool | apply Plain.int | apply Plain.str); k_whole; (try dsimp only [List.cons_append, List.nil_append])) | walk1) <;> first | (with_reducible show wpAny _ _ (subscriptTail _ (PySem.Expr.Slice _ _ _ _) _ _) _ _ _) | (try dsimp only)) | (dsimp only; walk1) | (leave1; try dsimp only) | fail "no step"))
      rename IsRange _ _ _ _ _ _ _ _ => hR2; rename Fr _ _ _ _ => F₂; rename News _ _ _ _ => N₂
      have q₂ := kk _ _ _ F₂ N₂ (fun _ h => h)
      have kt₁ := ki _ q₂
      have hD₂ := kd _ q₂
      have hpl : ps.length ≤ 2 := hF.2.1 _ (List.mem_of_getElem? ef) _ rfl
      have nf := ns_fields F₁
      refine range_H (n := svs.length + 1) (fun j m h2 => AgreeOff [Str.ofString "here", Str.ofString "index"] _ m ∧ (∃ v', m (Str.ofString "here") = some v' ∧ PairsAt h2 v' (ps ++ pts i j)) ∧ DAt PySem.Challenge.pw_xm0585_01 w h2 _ (afE cs fs i ++ blockE i ps j) ∧ KeepIt h h2) rfl hR2 ?sm2 ?sz2 rfl rfl F₂
        ⟨.refl, ⟨_, if_pos rfl, by simpa [pts] using hps.mono F₂.keep⟩, by simpa [blockE] using hD₂, kt₁⟩ ?stab2 ?step2 ?done2
      case sm2 => exact small_to (n := svs.length + 1) (by omega)
      case sz2 => exact size_to (svs.length + 1)
      case stab2 => exact fun j m h h' F hJ ko => ⟨hJ.1, let ⟨v', a, b⟩ := hJ.2.1; ⟨v', a, pairs_keeps F (fun x o e hx hf => ko x o e hx (.inl hf)) b⟩, dat_keeps F hdL (fun a o e ha hf => ko a o e ha (.inl hf)) hJ.2.2.1, hJ.2.2.2.stab kt₁ nf ko⟩
      case done2 =>
        intro m' h' tk' hJ' F'
        have F9 := F'
        rw [AgreeOff.form hJ'.1] at F9
        clear F'
        (try dsimp only)
        (repeat' ((fail_if_success (with_reducible refine stop_at (by first | (constructor; done) | exact .call (by decide)) ?_)); first | (k_unfold; (try dsimp only)) | (k_end; wrow_close) | ((first | ((with_reducible show wpAny _ _ (subscriptTail _ _ (Value.ref _) (Value.int _ _)) _ _ _); first | (refine item_tupleT (Fr.tup (by k_asm) (by assumption)) (by decide) (by decide) (by rfl) (by rfl) ?_; k_whole) | ((with_reducible show wpAny _ _ (subscriptTail _ _ (Value.ref _) (Value.int 0 _)) _ _ _); refine itemT_head (by k_asm) (by assumption) ?_; k_whole) | (refine itemL_at (by k_asm) (by assumption) (by first | assumption | rfl) (by ktr_units) (by ktr_units) ?_; k_whole)) | ((with_reducible show wpAny _ _ (call (Value.builtin "len") [Value.ref _]) _ _ _); refine PyProof.Rows.len_list (Fr.lst (by k_asm) (by assumption)) (by ktr_units) ?_; k_whole) | ((with_reducible show wpAny _ _ (spliced _) _ _ _); refine' args_plain ?qSS ?qFF ?qkk ?qPP ?_; (case qSS => rfl); (case qFF => k_asm); (case qkk => rfl); (case qPP => repeat' first | exact Plain.nil | (apply Plain.name; exact rfl; exact rfl; decide) | apply Plain.none | apply Plain.bool | apply Plain.int | apply Plain.str); k_whole; (try dsimp only [List.cons_append, List.nil_append])) | walk1) <;> first | (with_reducible show wpAny _ _ (subscriptTail _ (PySem.Expr.Slice _ _ _ _) _ _) _ _ _) | (try dsimp only)) | (dsimp only; walk1) | (leave1; try dsimp only) | fail "no step"))
        (try dsimp only)
        refine ⟨_, _, _, rfl, F9, hJ'.2.2.2, ?_, ?_⟩
        · intro y hy
          simp only [List.mem_cons, List.not_mem_nil, or_false, not_or] at hy
          simp only [pick, hy, if_false]
        · have e9 : cs.getD i 0 = svs.length := by rw [List.getD_eq_getElem?_getD, e3]; rfl
          rw [afE_succ, rowE, ef]
          dsimp only
          rw [e9]
          exact hJ'.2.2.1
      case step2 =>
        intro j tj m₂ h2 tk2 hj hJ2 F₃
        refine hide (fun P9 toP9 => ?_)
        rw [show (0 + (j : Int) * 1) = (j : Int) by omega] at F₃
        obtain ⟨ha, ⟨v', hm, hp'⟩, hD3, kt2⟩ := hJ2
        rw [AgreeOff.form1 ha hm] at F₃
        obtain ⟨D3, N3, -, hDD⟩ := refresh F₃ News.nil
        have kk3 : ∀ h' m' news', Fr g L' h' m' → News g L' h' news' → (∀ p ∈ D3, p ∈ news') → ∀ b o, h2.get? b = some o → b ≠ L' → h'.get? b = some o := fun _ _ _ a b c => keepAll_of hDD a b c
        have ki3 := fun h' => keepIt_all (h' := h') F₃
        have kd3 := fun h' (q : ∀ b o, h2.get? b = some o → b ≠ L' → h'.get? b = some o) => dat_keeps (h' := h') F₃ hdL (fun x o e hx _ => q x o e hx) hD3
        have kp3 := fun h' (q : ∀ b o, h2.get? b = some o → b ≠ L' → h'.get? b = some o) => pairs_keeps (h' := h') F₃ (fun x o e hx _ => q x o e hx) hp'
        clear hDD F₂ N₂ hR2 hR q₂
        (refine toP9 ?_; clear toP9 P9)
        (try dsimp only)
        (repeat' ((fail_if_success (with_reducible refine stop_at (by first | (constructor; done) | exact .call (by decide)) ?_)); first | (k_unfold; (try dsimp only)) | (k_end; wrow_close) | ((first | ((with_reducible show wpAny _ _ (subscriptTail _ _ (Value.ref _) (Value.int _ _)) _ _ _); first | (refine item_tupleT (Fr.tup (by k_asm) (by assumption)) (by decide) (by decide) (by rfl) (by rfl) ?_; k_whole) | ((with_reducible show wpAny _ _ (subscriptTail _ _ (Value.ref _) (Value.int 0 _)) _ _ _); refine itemT_head (by k_asm) (by assumption) ?_; k_whole) | (refine itemL_at (by k_asm) (by assumption) (by first | assumption | rfl) (by ktr_units) (by ktr_units) ?_; k_whole)) | ((with_reducible show wpAny _ _ (call (Value.builtin "len") [Value.ref _]) _ _ _); refine PyProof.Rows.len_list (Fr.lst (by k_asm) (by assumption)) (by ktr_units) ?_; k_whole) | ((with_reducible show wpAny _ _ (spliced _) _ _ _); refine' args_plain ?qSS ?qFF ?qkk ?qPP ?_; (case qSS => rfl); (case qFF => k_asm); (case qkk => rfl); (case qPP => repeat' first | exact Plain.nil | (apply Plain.name; exact rfl; exact rfl; decide) | apply Plain.none | apply Plain.bool | apply Plain.int | apply Plain.str); k_whole; (try dsimp only [List.cons_append, List.nil_append])) | walk1) <;> first | (with_reducible show wpAny _ _ (subscriptTail _ (PySem.Expr.Slice _ _ _ _) _ _) _ _ _) | (try dsimp only)) | (dsimp only; walk1) | (leave1; try dsimp only) | fail "no step"))
        rename Fr _ _ _ _ => F₄; rename News _ _ _ _ => N₄
        have q4 := kk3 _ _ _ F₄ N₄ (fun p hp => .tail _ hp)
        have hl4 : (afE cs fs i ++ blockE i ps j).length < 1000 := by
          have := afE_len (fs := fs) hL.2.2.1 i
          rw [List.length_append, blockE_len]; omega
        have hl5 : (ps ++ pts i j).length < 1000 := by
          rw [List.length_append]; simp only [pts, List.length_map, List.length_range]; omega
        have hD4 := kd3 _ q4
        refine dat_set (ps := ps ++ pts i j) (by ktr_room) hD4 (N₄.isTup (.head _)) (kp3 _ q4) fresh_key hl4 ?_
        intro h5 tk5 hD5 hs5
        refine hide (fun P9 toP9 => ?_)
        have F₅ := F₄.change hs5 hdL hdg
        have hp5 := pairs_set hD4 hs5 (kp3 _ q4)
        have kt5 := (ki3 _ q4).trans (keepIt_set hD4 hs5)
        obtain ⟨D5, N5, -, hD55⟩ := refresh F₅ News.nil
        have kk5 : ∀ h' m' news', Fr g L' h' m' → News g L' h' news' → (∀ p ∈ D5, p ∈ news') → ∀ b o, h5.get? b = some o → b ≠ L' → h'.get? b = some o := fun _ _ _ a b c => keepAll_of hD55 a b c
        have ki5 := fun h' => keepIt_all (h' := h') F₅
        have kp5 := fun h' (q : ∀ b o, h5.get? b = some o → b ≠ L' → h'.get? b = some o) => pairs_keeps (h' := h') F₅ (fun x o e hx _ => q x o e hx) hp5
        have kd5 := fun h' (q : ∀ b o, h5.get? b = some o → b ≠ L' → h'.get? b = some o) => dat_keeps (h' := h') F₅ hdL (fun x o e hx _ => q x o e hx) hD5
        (try clear hD55); (try clear F₄); (try clear N₄); (try clear F₃); (try clear q4); (try clear hD4); (try clear N3)
        (refine toP9 ?_; clear toP9 P9)
        (try dsimp only)
        (repeat' ((fail_if_success (with_reducible refine stop_at (by first | (constructor; done) | exact .call (by decide)) ?_)); first | (k_unfold; (try dsimp only)) | (k_end; wrow_close) | ((first | ((with_reducible show wpAny _ _ (subscriptTail _ _ (Value.ref _) (Value.int _ _)) _ _ _); first | (refine item_tupleT (Fr.tup (by k_asm) (by assumption)) (by decide) (by decide) (by rfl) (by rfl) ?_; k_whole) | ((with_reducible show wpAny _ _ (subscriptTail _ _ (Value.ref _) (Value.int 0 _)) _ _ _); refine itemT_head (by k_asm) (by assumption) ?_; k_whole) | (refine itemL_at (by k_asm) (by assumption) (by first | assumption | rfl) (by ktr_units) (by ktr_units) ?_; k_whole)) | ((with_reducible show wpAny _ _ (call (Value.builtin "len") [Value.ref _]) _ _ _); refine PyProof.Rows.len_list (Fr.lst (by k_asm) (by assumption)) (by ktr_units) ?_; k_whole) | ((with_reducible show wpAny _ _ (spliced _) _ _ _); refine' args_plain ?qSS ?qFF ?qkk ?qPP ?_; (case qSS => rfl); (case qFF => k_asm); (case qkk => rfl); (case qPP => repeat' first | exact Plain.nil | (apply Plain.name; exact rfl; exact rfl; decide) | apply Plain.none | apply Plain.bool | apply Plain.int | apply Plain.str); k_whole; (try dsimp only [List.cons_append, List.nil_append])) | walk1) <;> first | (with_reducible show wpAny _ _ (subscriptTail _ (PySem.Expr.Slice _ _ _ _) _ _) _ _ _) | (try dsimp only)) | (dsimp only; walk1) | (leave1; try dsimp only) | fail "no step"))
        rename Fr _ _ _ _ => F₆; rename News _ _ _ _ => N₆
        have q6 := kk5 _ _ _ F₆ N₆ (fun _ h => h)
        refine step_use F₆ X' T' N₆ (kp5 _ q6) hl5 (by ktr_room) (by ktr_room) ?_
        intro v7 h7 tk7 st7 F₇ N₇ hv7
        refine hide (fun P9 toP9 => ?_)
        obtain ⟨D7, N8, -, hD77⟩ := refresh F₇ News.nil
        have q57 : ∀ b o, h5.get? b = some o → b ≠ L' → h7.get? b = some o := fun b o e hb => st7 b o (q6 b o e hb)
        have kt7 := kt5.trans (ki5 _ q57)
        have hD7 := kd5 _ q57
        have kk7 : ∀ h' m' news', Fr g L' h' m' → News g L' h' news' → (∀ p ∈ D7, p ∈ news') → ∀ b o, h7.get? b = some o → b ≠ L' → h'.get? b = some o := fun _ _ _ a b c => keepAll_of hD77 a b c
        have ki7 := fun h' => keepIt_all (h' := h') F₇
        have kd7 := fun h' (q : ∀ b o, h7.get? b = some o → b ≠ L' → h'.get? b = some o) => dat_keeps (h' := h') F₇ hdL (fun x o e hx _ => q x o e hx) hD7
        have kp7 := fun h' (q : ∀ b o, h7.get? b = some o → b ≠ L' → h'.get? b = some o) => pairs_keeps (h' := h') F₇ (fun x o e hx _ => q x o e hx) hv7
        (try clear hD77); (try clear F₆); (try clear N₆); (try clear F₅); (try clear N5); (try clear N₇); (try clear q6); (try clear q57)
        (refine toP9 ?_; clear toP9 P9)
        (try dsimp only)
        (repeat' ((fail_if_success (with_reducible refine stop_at (by first | (constructor; done) | exact .call (by decide)) ?_)); first | (k_unfold; (try dsimp only)) | (k_end; wrow_close) | ((first | ((with_reducible show wpAny _ _ (subscriptTail _ _ (Value.ref _) (Value.int _ _)) _ _ _); first | (refine item_tupleT (Fr.tup (by k_asm) (by assumption)) (by decide) (by decide) (by rfl) (by rfl) ?_; k_whole) | ((with_reducible show wpAny _ _ (subscriptTail _ _ (Value.ref _) (Value.int 0 _)) _ _ _); refine itemT_head (by k_asm) (by assumption) ?_; k_whole) | (refine itemL_at (by k_asm) (by assumption) (by first | assumption | rfl) (by ktr_units) (by ktr_units) ?_; k_whole)) | ((with_reducible show wpAny _ _ (call (Value.builtin "len") [Value.ref _]) _ _ _); refine PyProof.Rows.len_list (Fr.lst (by k_asm) (by assumption)) (by ktr_units) ?_; k_whole) | ((with_reducible show wpAny _ _ (spliced _) _ _ _); refine' args_plain ?qSS ?qFF ?qkk ?qPP ?_; (case qSS => rfl); (case qFF => k_asm); (case qkk => rfl); (case qPP => repeat' first | exact Plain.nil | (apply Plain.name; exact rfl; exact rfl; decide) | apply Plain.none | apply Plain.bool | apply Plain.int | apply Plain.str); k_whole; (try dsimp only [List.cons_append, List.nil_append])) | walk1) <;> first | (with_reducible show wpAny _ _ (subscriptTail _ (PySem.Expr.Slice _ _ _ _) _ _) _ _ _) | (try dsimp only)) | (dsimp only; walk1) | (leave1; try dsimp only) | fail "no step"))
        (try dsimp only)
        rename Fr _ _ _ _ => F₉; rename News _ _ _ _ => N₉
        have q9 := kk7 _ _ _ F₉ N₉ (fun _ h => h)
        have kt9 := kt7.trans (ki7 _ q9)
        refine ⟨_, _, _, rfl, F₉, kt9, ?_, ⟨v7, by simp, ?_⟩, ?_, kt2.trans kt9⟩
        · intro y hy
          simp only [List.mem_cons, List.not_mem_nil, or_false, not_or] at hy
          simp only [pick, hy, if_false]
        · rw [pts_succ, ← List.append_assoc]
          exact kp7 _ q9
        · rw [blockE_succ, ← List.append_assoc]
          exact kd7 _ q9
def KeepOff2 (H : Heap) (L c : Addr) (h h' : Heap) : Prop := ∀ b o, h.get? b = some o → b ≠ L → b ≠ c → (isFields o = false ∨ H.get? b = some o) → h'.get? b = some o
section
variable {prog : Program} {w : World} {A : Around} {s : Shared} {env : Env} {g H₀ : Heap}
theorem codeAny_forCH {R : Result → Shared → Prop} {Q : Flow → Shared → Prop} {xi xc : Str} {pk pv pt : Pos} {x1 : Nat} {body : List Stmt} {I : Addr} {fp wr : List Addr} {n : Nat} {Pt : Nat → Array Value → Prop} {St : Nat → Heap → Prop} {Mid : Nat → Addr → Heap → Prop}
    {P2 : Nat → Value → Value → Prop} {m : Str → Option Value} {c : Addr} (hh : A.handled = none) (W : WalksT prog w A I fp wr n Pt St Mid) (h2 : ∀ i vals, Pt i vals → ∃ v0 v1, vals = #[v0, v1] ∧ P2 i v0 v1)
    (hkf : env.scope.kind = .function) (hxi : env.kindOf xi = some .cell) (hcl : env.cells.lookup xi = some c) (hcL : c ≠ env.locals) (hcg : g.get? c = none) (hcf : c ∉ fp) (hxc : env.kindOf xc = some .local)
    (hp : (env.scope.kind == .class || (env.scope.kind == .module && env.locals != env.globals)) = false)
    (hLf : env.locals ∉ fp) (hwr : ∀ b ∈ wr, g.get? b = none) (hwH : ∀ b ∈ wr, H₀.get? b = none) (hfl : ∀ i h, St i h → ∀ b ∈ wr, ∀ o, h.get? b = some o → isFields o = true)
    (hfr : ∀ i h h', St i h → KeepIt h h' → (∀ b o, g.get? b = some o → h'.get? b = some o) → St i h')
    (hst : St 0 s.heap) (F : Fr g env.locals s.heap m) (J : Nat → (Str → Option Value) → Heap → Prop) (j0 : J 0 m s.heap)
    (stab : ∀ i m h h', Fr g env.locals h m → J i m h → (∃ v, h'.IsCell c v) → KeepOff2 H₀ env.locals c h h' → J i m h')
    (hJc : ∀ i m h, J i m h → ∃ v, h.IsCell c v)
    (step : ∀ i v0 v1 m₁ h tk, i < n → P2 i v0 v1 → J i m₁ h → h.IsCell c (some v0) → Fr g env.locals h (fun y => if y = xc then some v1 else m₁ y) →
      wpAny (model prog w) A (execs body env) (TurnH g env.locals h s (J (i + 1)) Q) (notedBy (model prog w) A env fun e s' => R (.error e) s') { s with heap := h, toks := tk })
    (hR : ∀ f s', Q f s' → R (.ok f) s')
    (done : ∀ m' h' tk, J n m' h' → Fr g env.locals h' m' → Q .next { s with heap := h', toks := tk }) :
    codeAny (model prog w) A (.forLoop (.Tuple [.Name xi pk, .Name xc pv] x1 pt) (.ref I) body [] env) R s := by
  have hLw : env.locals ∉ wr := fun h => hLf (W.sub _ h)
  have hcw : c ∉ wr := fun h => hcf (W.sub _ h)
  have old : ∀ b o, g.get? b = some o → b ∉ wr := fun b o e hb => by rw [hwr b hb] at e; cases e
  refine codeAny_forLoop_any
    (fun k s' => ∃ h' tk m' i, s' = { s with heap := h', toks := tk } ∧ St i h' ∧ Fr g env.locals h' m' ∧ J i m' h' ∧ i ≤ n ∧ k = n + 1 - i) ?_ (n + 1)
    ⟨s.heap, s.toks, m, 0, rfl, hst, F, j0, Nat.zero_le _, rfl⟩
  rintro k s' ⟨H, tk, m', i, rfl, hst', F', hJ, hi, rfl⟩
  have nextF : ∀ h₁ : Heap, (∀ b o, b ∉ wr → H.get? b = some o → h₁.get? b = some o) → Fr g env.locals h₁ m' := fun h₁ hk₁ =>
    ⟨F'.ns.at' fun o e => hk₁ _ o hLw e, fun b o e => hk₁ b o (old b o e) (F'.keep b o e), F'.above⟩
  by_cases hlt : i < n
  · refine W.item i _ _ _ hlt hst' fun T vals h₁ tk₁ hPt _ hT hMid hk₁ => ?_
    refine hide (fun P9 toP9 => ?_)
    obtain ⟨v0, v1, rfl, hP2⟩ := h2 i vals hPt
    (refine toP9 ?_; clear toP9 P9)
    refine W.go _ x1 pt i T _ _ _ hMid fun h₂ hst₂ hk₂ => ?_
    have ht₂ : h₂.IsTuple T #[v0, v1] := hT.at fun o e => hk₂ T o (W.apart i T h₁ hMid) e
    refine wpAny_assign_Tuple hh ht₂ rfl rfl fun h₃ hx₃ => ?_
    replace hx₃ : Heap.ExtBut h₂.objs.size h₂ h₃ := hx₃
    have up₃ : ∀ b o, h₂.get? b = some o → h₃.get? b = some o := fun b o x => hx₃ b o (Nat.ne_of_lt (Heap.lt_size x)) x
    have k₃ : ∀ b o, b ∉ wr → H.get? b = some o → h₃.get? b = some o := fun b o hb x => up₃ b o (hk₂ b o hb (hk₁ b o hb x))
    have F₃ := nextF h₃ k₃
    show wpAny _ A (do holding [v1] (assign (.Name xi pk) env v0); do holding [] (assign (.Name xc pv) env v1); pure ()) _ _ _
    refine hide (fun P9 toP9 => ?_)
    obtain ⟨cv, oc, hoc, hdc⟩ := hJc _ _ _ hJ
    (refine toP9 ?_; clear toP9 P9)
    have hc₃ : h₃.IsCell c cv := ⟨oc, k₃ _ _ hcw hoc, hdc⟩
    refine wpAny_bind (wpAny_holding (wpAny_assign_Name (wpAny_storeName_cell hkf hxi hcl hc₃ (fun h₄ hn₄ hs₄ => ?_))))
    replace hs₄ : Heap.SameBut c h₃ h₄ := hs₄
    have F₄ : Fr g env.locals h₄ m' := F₃.change hs₄ hcL hcg
    refine wpAny_bind (wpAny_holding (wpAny_assign_Name (wpAny_storeName_local hxc F₄.ns (fun h₅ hn₅ hs₅ => wpAny_pure ?_) hp)))
    replace hs₅ : Heap.SameBut env.locals h₄ h₅ := hs₅
    have F₅ := F₄.set hn₅ hs₅
    have hc₅ : h₅.IsCell c (some v0) := hn₄.sameBut hs₅ hcL
    have k₅ : KeepOff2 H₀ env.locals c H h₅ := fun b o e hb hbc hf => (hs₅.2 b hb).trans ((hs₄.2 b hbc).trans (k₃ b o (fun q => hf.elim (fun hf => by rw [hfl i H hst' b q o e] at hf; cases hf) fun hf => by rw [hwH b q] at hf; cases hf) e))
    have hst₅ : St (i + 1) h₅ := W.frame _ _ _ hst₂ fun b hb o e => hs₅.extBut b o (fun q => hLf (q ▸ hb)) (hs₄.extBut b o (fun q => hcf (q ▸ hb)) (up₃ b o e))
    refine wpAny_mono (step i v0 v1 m' h₅ _ hlt hP2 (stab _ _ _ _ F' hJ ⟨_, hc₅⟩ k₅) hc₅ F₅) (fun f s₃ h₆ => ?_) fun _ _ e => e
    have fin : StepH g env.locals h₅ s (J (i + 1)) s₃ → ∃ k', k' < n + 1 - i ∧ ∃ h' tk m' i, s₃ = { s with heap := h', toks := tk } ∧ St i h' ∧ Fr g env.locals h' m' ∧ J i m' h' ∧ i ≤ n ∧ k' = n + 1 - i := by
      rintro ⟨h₃', tk₃, m₃, rfl, F₃, kt, hJ₃⟩
      exact ⟨n + 1 - (i + 1), by omega, h₃', tk₃, m₃, i + 1, rfl, hfr _ _ _ hst₅ kt F₃.keep, F₃, hJ₃, hlt, rfl⟩
    cases f with
    | ret v => exact hR _ _ h₆
    | brk => exact hR _ _ h₆
    | cont => exact fin h₆
    | next => exact fin h₆
  · have hin : i = n := by omega
    subst hin
    refine W.done _ _ _ hst' fun h₁ tk₁ hk₁ => wpAny_execs_nil ?_
    exact hR _ _ (done m' h₁ tk₁ (stab _ _ _ _ F' hJ (let ⟨cv, oc, hoc, hdc⟩ := hJc _ _ _ hJ; ⟨cv, oc, hk₁ _ _ hcw hoc, hdc⟩) fun b o e hb _ hf => hk₁ b o (fun q => hf.elim (fun hf => by rw [hfl i H hst' b q o e] at hf; cases hf) fun hf => by rw [hwH b q] at hf; cases hf) e) (nextF h₁ hk₁))
theorem enumC_H {E : Value → Shared → Prop} {c : Addr} {Q : Flow → Shared → Prop} {xi xc : Str} {pk pv pt : Pos} {x1 : Nat} {body : List Stmt} {e : Addr} {vs : List Value} {m : Str → Option Value} (J : Nat → (Str → Option Value) → Heap → Prop)
    (hh : A.handled = none) (he : EnumFor g env.locals H₀ s.heap e vs)
    (hkf : env.scope.kind = .function) (hxi : env.kindOf xi = some .cell) (hcl : env.cells.lookup xi = some c) (hcL : c ≠ env.locals) (hcg : g.get? c = none) (hcH : ∃ v, s.heap.IsCell c v) (hxc : env.kindOf xc = some .local) (hp : (env.scope.kind == .class || (env.scope.kind == .module && env.locals != env.globals)) = false)
    (F : Fr g env.locals s.heap m) (j0 : J 0 m s.heap) (stab : ∀ i m h h', Fr g env.locals h m → J i m h → (∃ v, h'.IsCell c v) → KeepOff2 H₀ env.locals c h h' → J i m h') (hJc : ∀ i m h, J i m h → ∃ v, h.IsCell c v)
    (step : ∀ (i : Nat) t' v m₁ h tk, vs[i]? = some v → J i m₁ h → h.IsCell c (some (.int (i : Int) t')) → Fr g env.locals h (fun y => if y = xc then some v else m₁ y) →
      wpAny (model prog w) A (execs body env) (TurnH g env.locals h s (J (i + 1)) Q) E { s with heap := h, toks := tk })
    (done : ∀ m' h' tk, J vs.length m' h' → Fr g env.locals h' m' → Q .next { s with heap := h', toks := tk })
    (hE : PassesOwn (model prog w) A env E := by passes_own) :
    wpAny (model prog w) A (pyIter (.ref e)) (fun it s₂ => codeAny (model prog w) A (.forLoop (.Tuple [.Name xi pk, .Name xc pv] x1 pt) it body [] env) (fun r s' => match r with | .ok f => Q f s' | .error e => cameBackBy (model prog w) A env E e s') s₂) E s := by
  refine hide (fun P9 toP9 => ?_)
  obtain ⟨it, l, he, hit, hl, n1, n2, n3, n4, n5, n6, g1, g2, H1, H2⟩ := he
  (refine toP9 ?_; clear toP9 P9)
  refine wpAny_pyIter_enum he ?_
  have hif : it ∈ [it, l] := by simp
  refine codeAny_forCH (c := c) (R := fun r s' => match r with | .ok f => Q f s' | .error e => cameBackBy (model prog w) A env E e s') (H₀ := H₀) (P2 := fun i v0 v1 => ∃ t, v0 = .int i t ∧ vs[i]? = some v1) hh
    (WalksT.enumerateD (Draws.list (A := A.in1) hh it l (Ne.symm n3) vs.toArray) e n1 (by simp [n1, n2]) hif) ?_ hkf hxi hcl hcL hcg ?hcf hxc hp (by simp [Ne.symm n4, Ne.symm n5, Ne.symm n6]) ?_ ?_ ?_ ?_
    ⟨⟨_, by simpa using he⟩, hit, F.lst hl⟩ F J j0 stab hJc (fun i v0 v1 m₁ h tk hi hP hJ hcv F₁ => ?_) (fun _ _ q => q) (fun m' h' tk hJ F' => done m' h' tk (by simpa using hJ) F')
  case hcf =>
    refine hide (fun P9 toP9 => ?_)
    obtain ⟨cv, oc, hoc, hdc⟩ := hcH
    obtain ⟨ol, hol, _⟩ := id hl
    (refine toP9 ?_; clear toP9 P9)
    have a1 : c ≠ e := fun q => by
      have he' : s.heap.get? e = some _ := he
      rw [q, he'] at hoc; cases hoc; cases hdc
    have a2 : c ≠ it := fun q => by
      obtain ⟨oi, hoi, _, hdi⟩ := hit
      rw [q, hoi] at hoc; cases hoc
      rw [hdi] at hdc; cases hdc
    have a3 : c ≠ l := fun q => by rw [q] at hcg; rw [hol] at hcg; cases hcg
    simp [a1, a2, a3]
  · rintro i vals ⟨t, x, hx, rfl⟩
    exact ⟨_, _, rfl, t, rfl, by simpa using hx⟩
  · intro b hb
    rcases List.mem_cons.mp hb with rfl | hb
    · exact g1
    · rw [List.mem_singleton.mp hb]; exact g2
  · intro b hb
    rcases List.mem_cons.mp hb with rfl | hb
    · exact H1
    · rw [List.mem_singleton.mp hb]; exact H2
  · rintro i h ⟨⟨old, st1⟩, ⟨o2, ho2, _, hd2⟩, _⟩ b hb o e'
    rcases List.mem_cons.mp hb with rfl | hb
    · have st1' : h.get? b = some _ := st1
      rw [e'] at st1'; cases st1'; rfl
    · rw [List.mem_singleton.mp hb, ho2] at e'
      cases e'
      unfold isFields; rw [hd2]
  · rintro i h h' ⟨⟨old, st1⟩, ⟨o2, ho2, hc2, hd2⟩, st3⟩ kt kg
    have st1' : h.get? e = some _ := st1
    exact ⟨⟨old, kt _ _ st1' rfl⟩, ⟨o2, kt _ _ ho2 (by unfold isFields; rw [hd2]), hc2, hd2⟩, hl.at fun o e => kg _ _ e⟩
  · obtain ⟨t', rfl, hx⟩ := hP
    exact wpAny_passesOwn hE (step i t' v1 m₁ h tk hx hJ hcv F₁)
end
section
variable {prog : Program} {w : World} {g h h' : Heap} {L d : Addr} {m : Str → Option Value} {es : List ((Int × Int) × List (Int × Int))}
theorem tup_keeps2 {a : Addr} {items : Array Value} (F : Fr g L h m) (k : ∀ b o, h.get? b = some o → b ≠ L → isFields o = false → (∀ v, o.data ≠ .cell v) → h'.get? b = some o) (x : IsTup h a items) : IsTup h' a items := by
  refine hide (fun P9 toP9 => ?_)
  obtain ⟨o, ho, hc, n, hd⟩ := x
  (refine toP9 ?_; clear toP9 P9)
  exact ⟨o, k _ _ ho (seq_ne_ns F ho hd) (by unfold isFields; rw [hd]) (by rw [hd]; exact fun _ q => nomatch q), hc, n, hd⟩
theorem pairsL_keeps2 {vs : List Value} {ps : List (Int × Int)} (F : Fr g L h m) (k : ∀ b o, h.get? b = some o → b ≠ L → isFields o = false → (∀ v, o.data ≠ .cell v) → h'.get? b = some o) (x : PairsL h vs ps) : PairsL h' vs ps := by
  induction x with
  | nil => exact .nil
  | cons e _ ih => exact .cons (tup_keeps2 F k e) ih
theorem pairs_keeps2 {v : Value} {ps : List (Int × Int)} (F : Fr g L h m) (k : ∀ b o, h.get? b = some o → b ≠ L → isFields o = false → (∀ v, o.data ≠ .cell v) → h'.get? b = some o) (x : PairsAt h v ps) : PairsAt h' v ps := let ⟨t, vs, e, a, b⟩ := x; ⟨t, vs, e, tup_keeps2 F k a, pairsL_keeps2 F k b⟩
theorem dat_keeps2 (F : Fr g L h m) (hL : d ≠ L) (k : ∀ b o, h.get? b = some o → b ≠ L → isFields o = false → (∀ v, o.data ≠ .cell v) → h'.get? b = some o) (x : DAt prog w h d es) : DAt prog w h' d es := by
  refine hide (fun P9 toP9 => ?_)
  obtain ⟨hs, xs, ⟨o, ee, ep, ho, hc, hd, he, hi, hn⟩, hv⟩ := x
  (refine toP9 ?_; clear toP9 P9)
  refine ⟨hs, xs, ⟨o, ee, ep, k _ _ ho hL (by unfold isFields; rw [hd]) (by rw [hd]; exact fun _ q => nomatch q), hc, hd, he, fun y hy => ?_, hn⟩, hv.mono fun v ps => pairs_keeps2 F k⟩
  refine hide (fun P9 toP9 => ?_)
  obtain ⟨oa, items, n, hoa, hca, hda, hia⟩ := hi y hy
  (refine toP9 ?_; clear toP9 P9)
  exact ⟨oa, items, n, k _ _ hoa (seq_ne_ns F hoa hda) (by unfold isFields; rw [hda]) (by rw [hda]; exact fun _ q => nomatch q), hca, hda, hia⟩
theorem dat_off2 {H : Heap} {c : Addr} (F : Fr g L h m) (hL : d ≠ L) (hc : ∃ v, h.IsCell c v) (ko : KeepOff2 H L c h h') (x : DAt prog w h d es) : DAt prog w h' d es :=
  dat_keeps2 F hL (fun b o e hb hf hn => ko b o e hb (fun q => by obtain ⟨v, oc, hoc, hdc⟩ := hc; rw [q, hoc] at e; cases e; exact hn v hdc) (.inl hf)) x
end
section
variable {prog : Program} {w : World} {A : Around} {s : Shared} {env : Env} {g : Heap} {L I C r : Addr} {m : Str → Option Value} {scope : Scope} {cl : List (Str × Addr)} {n : Nat} {x : Str} {p1 : Pos} {elt : PySem.Expr}
theorem nxt_walks {P : Nat → Value → Prop} {St : Nat → Heap → Prop} (W : Walks prog w A I [I] [I] n P St) (hkind : scope.kind = .function) (hx : scope.names.lookup x = some .local) (hI : g.get? I = none) (hIC : I ≠ C)
    (hf : ∀ i h, St i h → ∀ o, h.get? I = some o → isFields o = true) (hsome : ∀ i h, St i h → ∃ o, h.get? I = some o) :
    Nxt prog w A g I (.Name x p1) (compEnvC scope cl C env) [I] n St (fun i mC => ∃ v, P i v ∧ mC x = some v) where
  item := fun i s K T P' E mC hi st hC hK h => by
    refine wpAny_bind (W.item i s _ E hi st fun v h₁ tk₁ hP st₁ k₁ => ?_)
    rw [hK]
    refine wpAny_bind (wpAny_pure (wpAny_bind (wpAny_assign_Name (wpAny_storeName_local (lookup_relabel_local hx) (hC.at' fun o e => k₁ _ o (by simpa [compEnvC] using Ne.symm hIC) e) (fun h₇ hn₇ hs₇ => ?_) (by simp [compEnvC, relabel, hkind])))))
    exact h h₇ _ _ (W.frame _ _ _ st₁ fun b hb o e => hs₇.extBut b o (by rw [List.mem_singleton.mp hb]; exact hIC) e) hn₇ ⟨v, hP, by simp⟩ fun b o e hb hw => hs₇.extBut b o hb (k₁ b o hw e)
  done := fun s K P' E st h => wpAny_bind (W.done s _ E st fun h' tk' k' => h h' tk' fun b o e hb => k' b o hb e)
  flds := fun i h st b hb o e => by rw [List.mem_singleton.mp hb] at e; exact hf i h st o e
  hold := fun i h h' st kt _ => W.frame _ _ _ st fun b hb o e => by
    rw [List.mem_singleton.mp hb] at e ⊢
    exact kt _ _ e (hf i h st o e)
  offB := fun b hb => by rw [List.mem_singleton.mp hb]; exact hI
  self := fun i s Q E st hQ => W.self i s Q E st hQ
theorem compAt_range {J : Nat → List Value → Prop} (hh : A.handled = none) (F : Fr g L s.heap m)
    (hkind : scope.kind = .function) (hx : scope.names.lookup x = some .local) (hn : n ≤ sizeLine) (j0 : J 0 []) (a c : Int)
    (el : ∀ C D i h tk ys mC (R : Value → Shared → Prop), i < n → ys.length ≤ i → (∃ t, mC x = some (.int (a + i * c) t)) → Fr g L h m → h.Ns C mC → h.get? D = some (LCg.lst ys) →
      D ≠ C → L ≠ C → L ≠ D → g.get? C = none → g.get? D = none → (∀ b o, s.heap.get? b = some o → b ≠ L → h.get? b = some o) → s.heap.get? C = none → s.heap.get? D = none → J i ys →
      wpAny (model prog w) A (eval elt (compEnvC scope cl C env)) (ElH g L m C D h s ys (fun ys' h' => J (i + 1) ys' ∧ ∀ b o, s.heap.get? b = some o → b ≠ L → h'.get? b = some o)) R { s with heap := h, toks := tk }) :
    CompAt prog w A g L env scope cl (.Name x p1) elt [] m s.heap n J (.ref s.heap.objs.size) { s with heap := s.heap.push { cls := .type "range_iterator", data := .fields #[rawInt a, rawInt n, rawInt c] } } := by
  have up : ∀ b o, s.heap.get? b = some o → (s.heap.push { cls := .type "range_iterator", data := .fields #[rawInt a, rawInt n, rawInt c] }).get? b = some o := fun b o e => Heap.get?_push_of_some _ e
  have z := Heap.get?_push_size s.heap (o := { cls := .type "range_iterator", data := .fields #[rawInt a, rawInt n, rawInt c] }) rfl
  refine ⟨s.heap.objs.size, [s.heap.objs.size], _, rfl, F.push _, ?st0, fun b o e _ => up b o e, fun b hb => by rw [List.mem_singleton.mp hb]; exact Heap.get?_none_of_le (Nat.le_refl _),
    fun q => absurd F.ns.lt (by rw [List.mem_singleton.mp q]; exact Nat.lt_irrefl _), ?grow, hn, j0, fun C hC => ⟨_, nxt_walks (Walks.range hh s.heap.objs.size a c n) hkind hx (no_new F) (fun q => ?ne) ?fl ?sm, ?_⟩⟩
  case st0 => show IsRangeIter _ _ _ _ _; simpa using z
  case grow => exact fun h h' st k => k _ _ st
  case ne =>
    have hC' : (s.heap.push { cls := .type "range_iterator", data := .fields #[rawInt a, rawInt n, rawInt c] }).get? C = none := hC
    rw [q, hC'] at z; cases z
  case fl => intro i h st o e; have st' : h.get? _ = some _ := st; rw [e] at st'; cases st'; rfl
  case sm => exact fun i h st => ⟨_, st⟩
  · intro D i h tk ys mC R hi hy hB F' hC' hD' n1 n2 n3 n4 n5 hk hC₀ hD₀ hJ
    refine wpAny_tests_nil ?_
    simp only [if_true]
    refine hide (fun P9 toP9 => ?_)
    obtain ⟨v, ⟨t, rfl⟩, hm⟩ := hB
    (refine toP9 ?_; clear toP9 P9)
    exact el C D i h tk ys mC R hi hy ⟨t, hm⟩ F' hC' hD' n1 n2 n3 n4 n5 hk hC₀ hD₀ hJ
end
section
variable {prog : Program} {w : World} {A : Around} {E : Value → Shared → Prop} {s : Shared} {env : Env} {g : Heap} {L : Addr}
/-- what a comprehension's own doings leave alone -/
def KeepC (Hs : Heap) (L C D : Addr) (h h' : Heap) : Prop := ∀ b o, h.get? b = some o → b ≠ L → b ≠ C → b ≠ D → (isFields o = false ∨ Hs.get? b = some o) → h'.get? b = some o
/-- the block's loop over an iterator, where what is kept speaks of the heap -/
def CompJ (prog : Program) (w : World) (A : Around) (g : Heap) (L : Addr) (env : Env) (scope : Scope) (cl : List (Str × Addr)) (target elt : PySem.Expr) (ifs : List PySem.Expr) (m : Str → Option Value) (Hs : Heap) (n : Nat) (J : Nat → List Value → Heap → Prop) (it : Value) (s₂ : Shared) : Prop :=
  ∃ I wr St, it = .ref I ∧ Fr g L s₂.heap m ∧ St 0 s₂.heap ∧ (∀ b o, Hs.get? b = some o → b ≠ L → s₂.heap.get? b ≠ none) ∧ (∀ b ∈ wr, Hs.get? b = none) ∧ L ∉ wr ∧ (∀ h h' : Heap, St 0 h → (∀ b o, h.get? b = some o → h'.get? b = some o) → St 0 h') ∧ n ≤ sizeLine ∧ (∀ h', (∀ b o, s₂.heap.get? b = some o → h'.get? b = some o) → J 0 [] h') ∧
    ∀ C, s₂.heap.get? C = none → ∃ B, Nxt prog w A g I target (compEnvC scope cl C env) wr n St B ∧
      ∀ D i h tk ys mC (R : Value → Shared → Prop), i < n → ys.length ≤ i → B i mC → Fr g L h m → h.Ns C mC → h.get? D = some (LCg.lst ys) → D ≠ C → L ≠ C → L ≠ D → g.get? C = none → g.get? D = none → Hs.get? C = none → Hs.get? D = none → J i ys h →
        wpAny (model prog w) A (forIn ifs true fun c r => if r = true then do let ok ← isTrue c (compEnvC scope cl C env) (eval c (compEnvC scope cl C env)); pure (ForInStep.yield ok) else pure (ForInStep.yield r)) (fun ok s₃ =>
          if ok = true then wpAny (model prog w) A (eval elt (compEnvC scope cl C env)) (ElH g L m C D h s₂ ys (J (i + 1))) R s₃
          else TsH g L m C D h s₂ ys (J (i + 1)) s₃) R { s₂ with heap := h, toks := tk }
theorem ListComp_J {elt iter target : PySem.Expr} {ifs : List PySem.Expr} {scope : Scope} {cl : List (Str × Addr)} {pos : Pos} {Q : Value → Shared → Prop} {m : Str → Option Value} (Hs : Heap) (J : Nat → List Value → Heap → Prop)
    (stab : ∀ i ys zs h h' C D mC, Fr g L h m → h.Ns C mC → h.get? D = some (LCg.lst zs) → Hs.get? C = none → Hs.get? D = none → J i ys h → KeepC Hs L C D h h' → J i ys h')
    (hclos : closureFor scope env = pure cl) (hcell : ∀ y ∈ scope.names, y.2 ≠ .cell) (hkind : scope.kind = .function)
    (hnames : ∀ y ∈ scope.names, y.2 = .local → scope.names.lookup y.1 = some .local)
    (h : wpAny (model prog w) A (eval iter env) (fun xv s₁ => wpAny (model prog w) A (pyIter xv) (fun it s₂ => ∃ n, CompJ prog w A g L env scope cl target elt ifs m Hs n J it s₂ ∧
      ∀ D h' tk ys, ys.length ≤ n → Fr g L h' m → h'.get? D = some (LCg.lst ys) → g.get? D = none → D ≠ L → Hs.get? D = none → J n ys h' → Q (.ref D) { s₂ with heap := h', toks := tk }) E s₁) E s)
    (hs : ∀ x, foldedSetIterable iter env x = pure x := by intro _; rfl) :
    wpAny (model prog w) A (eval (.ListComp elt [⟨target, iter, ifs, 0⟩] scope pos) env) Q E s := by
  rw [eval_ListComp]
  refine wpAny_comprehension_free (use := none) rfl hs hclos hkind hnames (wpAny_mono h (fun xv s₁ h₁ => wpAny_mono h₁ (fun it s₂ h₂ => ?_) fun _ _ e => e) fun _ _ e => e)
  refine hide (fun P9 toP9 => ?_)
  obtain ⟨n, ⟨I, wr, St, rfl, F, hst, hHs, hwr, hLw, hgrow, hn, j0, hC⟩, hQ⟩ := h₂
  (refine toP9 ?_; clear toP9 P9)
  refine wpAny_newObj_type (wpAny_newFunctionEnv hcell (by intro y hy; simp at hy) (fun h₁ hns₁ hsb₁ => ?_) hkind)
  dsimp only at hns₁ hsb₁ ⊢
  generalize hH2 : s₂.heap.push { cls := .type "list", dict := none, data := .seq ([] : List Value).toArray } = H2 at hns₁ hsb₁ ⊢
  have hCs : H2.objs.size = s₂.heap.objs.size + 1 := by rw [← hH2, Heap.size_push]
  have fresh : ∀ a, s₂.heap.objs.size ≤ a → s₂.heap.get? a = none := fun a ha => Heap.get?_none_of_le ha
  have fresh₀ : ∀ a, s₂.heap.objs.size ≤ a → g.get? a = none := fun a ha => by
    cases e : g.get? a with
    | none => rfl
    | some o' => have := F.keep a o' e; rw [fresh a ha] at this; cases this
  have hLlt : L < s₂.heap.objs.size := F.ns.lt
  have freshH : ∀ a, s₂.heap.objs.size ≤ a → Hs.get? a = none := fun a ha => by
    cases e : Hs.get? a with
    | none => rfl
    | some o' => exact absurd (fresh a ha) (hHs a o' e (fun q => absurd hLlt (Nat.not_lt.mpr (q ▸ ha))))
  have hDC : s₂.heap.objs.size ≠ H2.objs.size := by rw [hCs]; exact Nat.ne_of_lt (Nat.lt_succ_self _)
  have hLC : L ≠ H2.objs.size := by rw [hCs]; exact Nat.ne_of_lt (Nat.lt_succ_of_lt hLlt)
  have hLD : L ≠ s₂.heap.objs.size := Nat.ne_of_lt hLlt
  have hle : s₂.heap.objs.size ≤ H2.objs.size := by rw [hCs]; exact Nat.le_succ _
  have old : ∀ b o, s₂.heap.get? b = some o → h₁.get? b = some o := fun b o e => hsb₁.extBut b o (by rw [hCs]; exact Nat.ne_of_lt (Nat.lt_succ_of_lt (Heap.lt_size e))) (Heap.get?_push_of_some _ (hH2 ▸ Heap.get?_push_of_some _ e))
  have hacc : h₁.get? s₂.heap.objs.size = some (LCg.lst []) := hsb₁.extBut _ _ hDC (Heap.get?_push_of_some _ (hH2 ▸ Heap.get?_push_size _ rfl))
  refine hide (fun P9 toP9 => ?_)
  obtain ⟨B, W, step⟩ := hC H2.objs.size (fresh _ hle)
  (refine toP9 ?_; clear toP9 P9)
  have hst₁ : St 0 h₁ := hgrow _ _ hst old
  have loop : ∀ s₃ : Shared, s₃ = { s₂ with heap := h₁, toks := s₂.toks + ([] : List (Str × Value)).length } →
      codeAny (model prog w) A (.compLoop (.ListComp elt [⟨target, iter, ifs, 0⟩] scope pos) 0 (.ref I) (.ref s₂.heap.objs.size) (compEnvC scope cl H2.objs.size env))
        (compPost (model prog w) A E none Q (.ref s₂.heap.objs.size) H2.objs.size) s₃ := by
    rintro s₃ rfl
    refine codeAny_compH (H₀ := Hs) (cenv := compEnvC scope cl H2.objs.size env) W hDC hLC hLD (fresh₀ _ hle) (fresh₀ _ (Nat.le_refl _)) hwr hst₁ (F.keeps old) hns₁ hacc hn J (j0 h₁ old) ?_ ?_ ?_ ?_
    · intro i ys h h' mC F' hC' hD' hJ k
      exact stab i ys ys h h' _ _ mC F' hC' hD' (freshH _ hle) (freshH _ (Nat.le_refl _)) hJ k
    · intro i ys x h h' mC F' hC' hD' hJ k
      exact stab i _ ys h h' _ _ mC F' hC' hD' (freshH _ hle) (freshH _ (Nat.le_refl _)) hJ (fun b o e _ _ hb _ => k b o e hb)
    · intro i h tk ys mC hi hy hB F' hC' hD' hJ
      exact step _ i h tk ys mC _ hi hy hB F' hC' hD' hDC hLC hLD (fresh₀ _ hle) (fresh₀ _ (Nat.le_refl _)) (freshH _ hle) (freshH _ (Nat.le_refl _)) hJ
    · intro h tk ys mC hyl F' hC' hD' hJ
      exact ⟨mC, hC', fun h'' hs'' => hQ _ h'' tk ys hyl (F'.change hs'' (Ne.symm hLC) (fresh₀ _ hle)) (hs''.extBut _ _ hDC hD') (fresh₀ _ (Nat.le_refl _)) (Ne.symm hLD) (freshH _ (Nat.le_refl _)) (stab n ys ys h h'' _ _ mC F' hC' hD' (freshH _ hle) (freshH _ (Nat.le_refl _)) hJ (fun b o e _ hb _ _ => hs''.extBut _ _ hb e))⟩
  exact codeAny_compStart_list (loop _ rfl) (W.self 0 _ _ _ hst₁ (loop _ rfl))
end
section
variable {prog : Program} {w : World} {A : Around} {E : Value → Shared → Prop} {s : Shared} {env : Env} {g : Heap} {L : Addr}
theorem ListComp_JF {elt iter target : PySem.Expr} {ifs : List PySem.Expr} {scope : Scope} {cl : List (Str × Addr)} {pos : Pos} {Q : Value → Shared → Prop} {m : Str → Option Value} (F : Fr g L s.heap m) (J : Heap → Nat → List Value → Heap → Prop)
    (stab : ∀ i ys zs h h' C D mC, Fr g L h m → h.Ns C mC → h.get? D = some (LCg.lst zs) → s.heap.get? C = none → s.heap.get? D = none → J s.heap i ys h → KeepC s.heap L C D h h' → J s.heap i ys h')
    (hclos : closureFor scope env = pure cl) (hcell : ∀ y ∈ scope.names, y.2 ≠ .cell) (hkind : scope.kind = .function)
    (hnames : ∀ y ∈ scope.names, y.2 = .local → scope.names.lookup y.1 = some .local)
    (h : wpAny (model prog w) A (eval iter env) (fun xv s₁ => wpAny (model prog w) A (pyIter xv) (fun it s₂ => ∃ n, CompJ prog w A g L env scope cl target elt ifs m s.heap n (J s.heap) it s₂ ∧
      ∀ D h' tk ys, ys.length ≤ n → Fr g L h' m → h'.get? D = some (LCg.lst ys) → g.get? D = none → D ≠ L → s.heap.get? D = none → J s.heap n ys h' → Q (.ref D) { s₂ with heap := h', toks := tk }) E s₁) E s)
    (hs : ∀ x, foldedSetIterable iter env x = pure x := by intro _; rfl) :
    wpAny (model prog w) A (eval (.ListComp elt [⟨target, iter, ifs, 0⟩] scope pos) env) Q E s :=
  ListComp_J s.heap (J s.heap) stab hclos hcell hkind hnames h hs
end
section
variable {prog : Program} {w : World} {A : Around} {s : Shared} {env : Env} {g Hs : Heap} {L : Addr} {m : Str → Option Value} {scope : Scope} {cl : List (Str × Addr)} {n : Nat} {x : Str} {p1 : Pos} {elt : PySem.Expr}
theorem compJ_range {J : Nat → List Value → Heap → Prop} (hh : A.handled = none) (F : Fr g L s.heap m) (hHs : ∀ b o, Hs.get? b = some o → b ≠ L → s.heap.get? b ≠ none)
    (hkind : scope.kind = .function) (hx : scope.names.lookup x = some .local) (hn : n ≤ sizeLine) (j0 : ∀ h', (∀ b o, s.heap.get? b = some o → h'.get? b = some o) → J 0 [] h') (a c : Int)
    (el : ∀ C D i h tk ys mC (R : Value → Shared → Prop), i < n → ys.length ≤ i → (∃ t, mC x = some (.int (a + i * c) t)) → Fr g L h m → h.Ns C mC → h.get? D = some (LCg.lst ys) →
      D ≠ C → L ≠ C → L ≠ D → g.get? C = none → g.get? D = none → Hs.get? C = none → Hs.get? D = none → J i ys h →
      wpAny (model prog w) A (eval elt (compEnvC scope cl C env)) (ElH g L m C D h s ys (J (i + 1))) R { s with heap := h, toks := tk }) :
    CompJ prog w A g L env scope cl (.Name x p1) elt [] m Hs n J (.ref s.heap.objs.size) { s with heap := s.heap.push { cls := .type "range_iterator", data := .fields #[rawInt a, rawInt n, rawInt c] } } := by
  have up : ∀ b o, s.heap.get? b = some o → (s.heap.push { cls := .type "range_iterator", data := .fields #[rawInt a, rawInt n, rawInt c] }).get? b = some o := fun b o e => Heap.get?_push_of_some _ e
  have z := Heap.get?_push_size s.heap (o := { cls := .type "range_iterator", data := .fields #[rawInt a, rawInt n, rawInt c] }) rfl
  have hLlt : L < s.heap.objs.size := F.ns.lt
  refine ⟨s.heap.objs.size, [s.heap.objs.size], _, rfl, F.push _, ?st0, ?keep, fun b hb => ?off,
    fun q => absurd F.ns.lt (by rw [List.mem_singleton.mp q]; exact Nat.lt_irrefl _), ?grow, hn, fun h' k => j0 h' fun b o e => k b o (up b o e), fun C hC => ⟨_, nxt_walks (Walks.range hh s.heap.objs.size a c n) hkind hx (no_new F) (fun q => ?ne) ?fl ?sm, ?_⟩⟩
  case st0 => show IsRangeIter _ _ _ _ _; simpa using z
  case keep =>
    intro b o e hb q
    cases e' : s.heap.get? b with
    | none => exact hHs b o e hb e'
    | some o' =>
      have q' : (s.heap.push { cls := .type "range_iterator", data := .fields #[rawInt a, rawInt n, rawInt c] }).get? b = none := q
      rw [up b o' e'] at q'; cases q'
  case off =>
    rw [List.mem_singleton.mp hb]
    cases e : Hs.get? s.heap.objs.size with
    | none => rfl
    | some o => exact absurd (Heap.get?_none_of_le (Nat.le_refl _)) (hHs _ o e (fun q => absurd hLlt (by rw [q]; exact Nat.lt_irrefl _)))
  case grow => exact fun h h' st k => k _ _ st
  case ne =>
    have hC' : (s.heap.push { cls := .type "range_iterator", data := .fields #[rawInt a, rawInt n, rawInt c] }).get? C = none := hC
    rw [q, hC'] at z; cases z
  case fl => intro i h st o e; have st' : h.get? _ = some _ := st; rw [e] at st'; cases st'; rfl
  case sm => exact fun i h st => ⟨_, st⟩
  · intro D i h tk ys mC R hi hy hB F' hC' hD' n1 n2 n3 n4 n5 hC₀ hD₀ hJ
    refine wpAny_tests_nil ?_
    simp only [if_true]
    refine hide (fun P9 toP9 => ?_)
    obtain ⟨v, ⟨t, rfl⟩, hm⟩ := hB
    (refine toP9 ?_; clear toP9 P9)
    exact el C D i h tk ys mC R hi hy ⟨t, hm⟩ F' hC' hD' n1 n2 n3 n4 n5 hC₀ hD₀ hJ
/-- what lay there stays, under a comprehension's own doings -/
theorem keepC_old {C D : Addr} {h h' : Heap} (hC : Hs.get? C = none) (hD : Hs.get? D = none) (k : ∀ b o, Hs.get? b = some o → b ≠ L → h.get? b = some o) (kc : KeepC Hs L C D h h') : ∀ b o, Hs.get? b = some o → b ≠ L → h'.get? b = some o :=
  fun b o e hb => kc b o (k b o e hb) hb (fun q => by rw [q, hC] at e; cases e) (fun q => by rw [q, hD] at e; cases e) (.inr e)
theorem keepC_tup {C D a : Addr} {h h' : Heap} {mC : Str → Option Value} {zs : List Value} {items : Array Value} (F : Fr g L h m) (hC : h.Ns C mC) (hD : h.get? D = some (LCg.lst zs)) (kc : KeepC Hs L C D h h') (x : IsTup h a items) : IsTup h' a items := by
  refine hide (fun P9 toP9 => ?_)
  obtain ⟨o, ho, hc, n, hd⟩ := x
  (refine toP9 ?_; clear toP9 P9)
  refine ⟨o, kc _ _ ho (seq_ne_ns F ho hd) (fun q => ?_) (fun q => ?_) (.inl (by unfold isFields; rw [hd])), hc, n, hd⟩
  · subst q
    refine hide (fun P9 toP9 => ?_)
    obtain ⟨o', es, ep, e', hd', _⟩ := hC
    (refine toP9 ?_; clear toP9 P9)
    rw [ho] at e'; cases e'
    rw [hd] at hd'; cases hd'
  · subst q
    rw [ho] at hD; cases hD
    have hc' : Value.type "list" = Value.type "tuple" := hc
    simp at hc'
theorem keepC_pairsL {C D : Addr} {h h' : Heap} {mC : Str → Option Value} {zs vs : List Value} {ps : List (Int × Int)} (F : Fr g L h m) (hC : h.Ns C mC) (hD : h.get? D = some (LCg.lst zs)) (kc : KeepC Hs L C D h h') (x : PairsL h vs ps) : PairsL h' vs ps := by
  induction x with
  | nil => exact .nil
  | cons e _ ih => exact .cons (keepC_tup F hC hD kc e) ih
end
theorem pairs_cell {prog : Program} {w : World} {h h' : Heap} {d c : Addr} {es} {o : Obj} {v : Option Value} (hD : DAt prog w h d es) (hs : Heap.SameBut d h h') (e : h.get? c = some o) (hd : o.data = .cell v) : h'.get? c = some o := by
  refine hide (fun P9 toP9 => ?_)
  obtain ⟨_, xs, ⟨o', ee, ep, ho, _, hd', _⟩, _⟩ := hD
  (refine toP9 ?_; clear toP9 P9)
  refine hs.extBut _ _ (fun q => ?_) e
  subst q
  rw [ho] at e; cases e
  rw [hd] at hd'; cases hd'
/-- rows: one due for each point of a block -/
def RowsAt (h : Heap) (rvs : List Value) (cs : List Nat) : Prop := rvs.length = cs.length ∧ cs.length ≤ 4 ∧ (∀ c ∈ cs, c ≤ 3) ∧ ∀ (i : Nat) (v : Value), rvs[i]? = some v → ∃ rw' dvs c, v = .ref rw' ∧ h.IsList rw' (List.toArray dvs) ∧ cs[i]? = some c ∧ dvs.length = c + 1
theorem RowsAt.mono {h h' : Heap} (k : ∀ b o, h.get? b = some o → h'.get? b = some o) {rvs : List Value} {cs : List Nat} (x : RowsAt h rvs cs) : RowsAt h' rvs cs :=
  ⟨x.1, x.2.1, x.2.2.1, fun i v e => let ⟨a, b, c, d, f, q⟩ := x.2.2.2 i v e; ⟨a, b, c, d, f.at (k _), q⟩⟩
set_option maxRecDepth 100000 in
set_option maxHeartbeats 2000000 in
theorem ahead_ok {w : World} {mean : ExcName → Option Value} {mg mb : Str → Option Value} {h₀ : Heap} {s : Shared} {dp un : Nat} {gd : Option (List Code)} {fr : Option (List Env)} {rl fl : Addr} {rvs fvs : List Value} {cs : List Nat} {fs : List (Option (List (Int × Int)))} {Q E : Value → Shared → Prop}
    (X : (Mine.hd.heap_1 w.params).In h₀) (T : Top Mine.vw (looseW Mine.vw []) mean mg mb h₀) (st0 : h₀.StaysIn s.heap)
    (hd : dp + 2 < recursionLimit) (hu : un + 110 < cLine)
    (hrl : s.heap.IsList rl rvs.toArray) (hR : RowsAt s.heap rvs cs) (hfl : s.heap.IsList fl fvs.toArray) (hF : FactsAt s.heap fvs fs) (hlen : cs.length = fs.length)
    (hQ : ∀ r h' tk', s.heap.get? r = none → s.heap.StaysIn h' → DAt PySem.Challenge.pw_xm0585_01 w h' r (afE cs fs cs.length) → Q (.ref r) { s with heap := h', toks := tk' }) :
    wpAny (model PySem.Challenge.pw_xm0585_01 w) (arnd dp un gd fr) (call (.ref 218) [.ref rl, .ref fl]) Q E s := by
  refine' enterC (news := []) X T st0 (fun _ h => nomatch h) (fun _ h => nomatch h) ?ho ?hcd ?hroom ?hbind ?hkind ?hnd ?_ ?c3 ?c4 ?c5
  case ho => k_dflt k_is
  case hcd => k_dflt k_is
  case hroom => ktr_room
  case hbind => exact BindsTo.of_eq rfl
  case hkind => exact rfl
  case hnd => decide +kernel
  case c3 => exact rfl
  case c4 => exact rfl
  case c5 => exact rfl
  intro g L' h₁ tk cells st1 st2 keep F' N' Y' X' T' nL l1 d' u' fr' hd' hu'
  change Fr _ _ _ (bindL _ [(_, _), (_, _)] _) at F'
  have k : ∀ b o, s.heap.get? b = some o → g.get? b = some o := fun b o e => keep b o e (fun h => nomatch h)
  replace hrl := hrl.at (k rl); replace hR := hR.mono k; replace hfl := hfl.at (k fl); replace hF := hF.mono k
  k_lt l1
  (have hY := CellsAre.one Y'; obtain ⟨o9, hE9, d9⟩ := hY; subst hE9; clear Y')
  (try simp only [List.cons_append, List.nil_append] at N')
  (try dsimp only)
  have c9 := N' (L' + 1, o9) (.head _)
  (repeat' ((fail_if_success (with_reducible refine stop_at (by first | (constructor; done) | exact .call (by decide)) ?_)); first | (k_unfold; (try dsimp only)) | (k_end; wrow_close) | ((first | ((with_reducible show wpAny _ _ (call (Value.type _) [Value.ref _]) _ _ _); refine enum_call (by k_asm) (by k_asm) (by assumption) ?_; k_whole; intro hzz9 ezz9 Fzz9 Nzz9 hezz9; (try k_sweep)) | ((with_reducible show wpAny _ _ (subscriptTail _ _ (Value.ref _) (Value.int _ _)) _ _ _); first | (refine item_tupleT (Fr.tup (by k_asm) (by assumption)) (by decide) (by decide) (by rfl) (by rfl) ?_; k_whole) | ((with_reducible show wpAny _ _ (subscriptTail _ _ (Value.ref _) (Value.int 0 _)) _ _ _); refine itemT_head (by k_asm) (by assumption) ?_; k_whole) | (refine itemL_at (by k_asm) (by assumption) (by first | assumption | rfl) (by ktr_units) (by ktr_units) ?_; k_whole)) | ((with_reducible show wpAny _ _ (call (Value.builtin "len") [Value.ref _]) _ _ _); refine PyProof.Rows.len_list (Fr.lst (by k_asm) (by assumption)) (by ktr_units) ?_; k_whole) | ((with_reducible show wpAny _ _ (spliced _) _ _ _); refine' args_plain ?qSS ?qFF ?qkk ?qPP ?_; (case qSS => rfl); (case qFF => k_asm); (case qkk => rfl); (case qPP => repeat' first | exact Plain.nil | (apply Plain.name; exact rfl; exact rfl; decide) | apply Plain.none | apply Plain.bool | apply Plain.int | apply Plain.str); k_whole; (try dsimp only [List.cons_append, List.nil_append])) | walk1) <;> first | (with_reducible show wpAny _ _ (subscriptTail _ (PySem.Expr.Slice _ _ _ _) _ _) _ _ _) | (try dsimp only)) | (dsimp only; walk1) | (leave1; try dsimp only) | fail "no step"))
  refine wpAny_For ?_ (by intro _; rfl)
  (repeat' ((fail_if_success (with_reducible refine stop_at (by first | (constructor; done) | exact .call (by decide)) ?_)); first | (k_unfold; (try dsimp only)) | (k_end; wrow_close) | ((first | ((with_reducible show wpAny _ _ (call (Value.type _) [Value.ref _]) _ _ _); refine enum_call (by k_asm) (by k_asm) (by assumption) ?_; k_whole; intro hzz9 ezz9 Fzz9 Nzz9 hezz9; (try k_sweep)) | ((with_reducible show wpAny _ _ (subscriptTail _ _ (Value.ref _) (Value.int _ _)) _ _ _); first | (refine item_tupleT (Fr.tup (by k_asm) (by assumption)) (by decide) (by decide) (by rfl) (by rfl) ?_; k_whole) | ((with_reducible show wpAny _ _ (subscriptTail _ _ (Value.ref _) (Value.int 0 _)) _ _ _); refine itemT_head (by k_asm) (by assumption) ?_; k_whole) | (refine itemL_at (by k_asm) (by assumption) (by first | assumption | rfl) (by ktr_units) (by ktr_units) ?_; k_whole)) | ((with_reducible show wpAny _ _ (call (Value.builtin "len") [Value.ref _]) _ _ _); refine PyProof.Rows.len_list (Fr.lst (by k_asm) (by assumption)) (by ktr_units) ?_; k_whole) | ((with_reducible show wpAny _ _ (spliced _) _ _ _); refine' args_plain ?qSS ?qFF ?qkk ?qPP ?_; (case qSS => rfl); (case qFF => k_asm); (case qkk => rfl); (case qPP => repeat' first | exact Plain.nil | (apply Plain.name; exact rfl; exact rfl; decide) | apply Plain.none | apply Plain.bool | apply Plain.int | apply Plain.str); k_whole; (try dsimp only [List.cons_append, List.nil_append])) | walk1) <;> first | (with_reducible show wpAny _ _ (subscriptTail _ (PySem.Expr.Slice _ _ _ _) _ _) _ _ _) | (try dsimp only)) | (dsimp only; walk1) | (leave1; try dsimp only) | fail "no step"))
  rename EnumFor _ _ _ _ _ _ => hE; rename Fr _ _ _ _ => F₀; rename News _ _ _ _ => N₀; rename (_ == sysModules) = false => hds; rename Obj.IsDictOf (intKind _ _) _ _ => hD0
  refine hide (fun P9 toP9 => ?_)
  obtain ⟨dat0, hdL, hdg⟩ := dat_of N₀ hds hD0
  (refine toP9 ?_; clear toP9 P9)
  clear hds hD0
  have c0 : ∃ v, (_ : Heap).IsCell (L' + 1) v := ⟨_, cell_news N₀ (.tail _ (.head _)) d9⟩
  refine enumC_H (c := L' + 1) (fun b m h => AgreeOff [Str.ofString "row", Str.ofString "index"] _ m ∧ DAt PySem.Challenge.pw_xm0585_01 w h _ (afE cs fs b) ∧ ∃ v, h.IsCell (L' + 1) v) rfl hE rfl rfl rfl c9.2.1 c9.2.2 c0 rfl rfl F₀ ⟨.refl, dat0, c0⟩ ?stab ?hJc ?step ?done
  case stab => exact fun b m h h' F hJ hc ko => ⟨hJ.1, dat_off2 F hdL hJ.2.2 ko hJ.2.1, hc⟩
  case hJc => exact fun _ _ _ hJ => hJ.2.2
  case done =>
    intro m' h' tk' hJ F'
    have hD := hJ.2.1
    have F9 := F'
    rw [AgreeOff.form hJ.1] at F9
    clear F₀ N₀ hJ F' hE
    (try dsimp only)
    refine hide (fun P9 toP9 => ?_)
    obtain ⟨D1, N1, -, hD1⟩ := refresh F9 News.nil
    (refine toP9 ?_; clear toP9 P9)
    have kf : ∀ h2 m2 news2, Fr g L' h2 m2 → News g L' h2 news2 → (∀ p ∈ D1, p ∈ news2) → DAt PySem.Challenge.pw_xm0585_01 w h2 _ (afE cs fs rvs.length) := fun _ _ _ a b c => dat_keeps F9 hdL (fun x o e hx _ => keepAll_of hD1 a b c x o e hx) hD
    clear hD1
    (repeat' ((fail_if_success (with_reducible refine stop_at (by first | (constructor; done) | exact .call (by decide)) ?_)); first | (k_unfold; (try dsimp only)) | (k_end; wrow_close) | ((first | ((with_reducible show wpAny _ _ (call (Value.type _) [Value.ref _]) _ _ _); refine enum_call (by k_asm) (by k_asm) (by assumption) ?_; k_whole; intro hzz9 ezz9 Fzz9 Nzz9 hezz9; (try k_sweep)) | ((with_reducible show wpAny _ _ (subscriptTail _ _ (Value.ref _) (Value.int _ _)) _ _ _); first | (refine item_tupleT (Fr.tup (by k_asm) (by assumption)) (by decide) (by decide) (by rfl) (by rfl) ?_; k_whole) | ((with_reducible show wpAny _ _ (subscriptTail _ _ (Value.ref _) (Value.int 0 _)) _ _ _); refine itemT_head (by k_asm) (by assumption) ?_; k_whole) | (refine itemL_at (by k_asm) (by assumption) (by first | assumption | rfl) (by ktr_units) (by ktr_units) ?_; k_whole)) | ((with_reducible show wpAny _ _ (call (Value.builtin "len") [Value.ref _]) _ _ _); refine PyProof.Rows.len_list (Fr.lst (by k_asm) (by assumption)) (by ktr_units) ?_; k_whole) | ((with_reducible show wpAny _ _ (spliced _) _ _ _); refine' args_plain ?qSS ?qFF ?qkk ?qPP ?_; (case qSS => rfl); (case qFF => k_asm); (case qkk => rfl); (case qPP => repeat' first | exact Plain.nil | (apply Plain.name; exact rfl; exact rfl; decide) | apply Plain.none | apply Plain.bool | apply Plain.int | apply Plain.str); k_whole; (try dsimp only [List.cons_append, List.nil_append])) | walk1) <;> first | (with_reducible show wpAny _ _ (subscriptTail _ (PySem.Expr.Slice _ _ _ _) _ _) _ _ _) | (try dsimp only)) | (dsimp only; walk1) | (leave1; try dsimp only) | fail "no step"))
    (try dsimp only)
    rename Fr _ _ _ _ => F; rename News _ _ _ _ => N
    exact hQ _ _ _ (none_of k hdg) (fun b o e => F.keep b o (k b o e)) (hR.1 ▸ kf _ _ _ F N (fun _ h => h))
  case step =>
    intro i t' v m₁ h tk hv0 hJ hcv F₁
    rw [AgreeOff.form hJ.1] at F₁
    refine hide (fun P9 toP9 => ?_)
    obtain ⟨rw', dvs, c, rfl, e1, e2, e3⟩ := hR.2.2.2 i v hv0
    have hi : i < rvs.length := (List.getElem?_eq_some_iff.mp hv0).1
    have hfz : i < fvs.length := by have := hF.1; have := hR.1; omega
    obtain ⟨v, hv⟩ : ∃ v, fvs[i]? = some v := ⟨fvs[i], List.getElem?_eq_getElem hfz⟩
    have hsz : c ≤ 3 := hR.2.2.1 _ (List.mem_of_getElem? e2)
    have hi4 : i < 4 := by have := hR.1; have := hR.2.1; omega
    have hv' : fvs[(i : Int).toNat]? = some v := by simpa using hv
    have hD := hJ.2.1
    obtain ⟨oc, hoc, hdc⟩ := id hcv
    obtain ⟨D, N, -, hD1⟩ := refresh F₁ News.nil
    (refine toP9 ?_; clear toP9 P9)
    have N' : News g L' h ((L' + 1, oc) :: D) := fun p hp => (List.mem_cons.mp hp).elim (fun q => q ▸ ⟨hoc, c9.2.1, c9.2.2⟩) (N p)
    have kk : ∀ h' m' news', Fr g L' h' m' → News g L' h' news' → (∀ p ∈ D, p ∈ news') → ∀ b o, h.get? b = some o → b ≠ L' → h'.get? b = some o := fun _ _ _ a b c => keepAll_of hD1 a b c
    have ki := fun h' => keepIt_all (h' := h') F₁
    have kd := fun h' (q : ∀ b o, h.get? b = some o → b ≠ L' → h'.get? b = some o) => dat_keeps (h' := h') F₁ hdL (fun x o e hx _ => q x o e hx) hD
    have nf := ns_fields F₁
    clear hD1 F₀ N₀ hJ hv hv0 N hE
    rcases hF.2.2 i v (by simpa using hv') with ⟨rfl, ef⟩ | ⟨ps, hps, ef⟩
    · (try dsimp only)
      (repeat' ((fail_if_success (with_reducible refine stop_at (by first | (constructor; done) | exact .call (by decide)) ?_)); first | (k_unfold; (try dsimp only)) | (k_end; wrow_close) | ((first | ((with_reducible show wpAny _ _ (call (Value.type _) [Value.ref _]) _ _ _); refine enum_call (by k_asm) (by k_asm) (by assumption) ?_; k_whole; intro hzz9 ezz9 Fzz9 Nzz9 hezz9; (try k_sweep)) | ((with_reducible show wpAny _ _ (subscriptTail _ _ (Value.ref _) (Value.int _ _)) _ _ _); first | (refine item_tupleT (Fr.tup (by k_asm) (by assumption)) (by decide) (by decide) (by rfl) (by rfl) ?_; k_whole) | ((with_reducible show wpAny _ _ (subscriptTail _ _ (Value.ref _) (Value.int 0 _)) _ _ _); refine itemT_head (by k_asm) (by assumption) ?_; k_whole) | (refine itemL_at (by k_asm) (by assumption) (by first | assumption | rfl) (by ktr_units) (by ktr_units) ?_; k_whole)) | ((with_reducible show wpAny _ _ (call (Value.builtin "len") [Value.ref _]) _ _ _); refine PyProof.Rows.len_list (Fr.lst (by k_asm) (by assumption)) (by ktr_units) ?_; k_whole) | ((with_reducible show wpAny _ _ (spliced _) _ _ _); refine' args_plain ?qSS ?qFF ?qkk ?qPP ?_; (case qSS => rfl); (case qFF => k_asm); (case qkk => rfl); (case qPP => repeat' first | exact Plain.nil | (apply Plain.name; exact rfl; exact rfl; decide) | apply Plain.none | apply Plain.bool | apply Plain.int | apply Plain.str); k_whole; (try dsimp only [List.cons_append, List.nil_append])) | walk1) <;> first | (with_reducible show wpAny _ _ (subscriptTail _ (PySem.Expr.Slice _ _ _ _) _ _) _ _ _) | (try dsimp only)) | (dsimp only; walk1) | (leave1; try dsimp only) | fail "no step"))
      (try dsimp only)
      rename Fr _ _ _ _ => F; rename News _ _ _ _ => N
      have q := kk _ _ _ F N (fun _ h => .tail _ h)
      refine ⟨_, _, _, rfl, F, ki _ q, ?_, ?_, ?_⟩
      · intro y hy
        simp only [List.mem_cons, List.not_mem_nil, or_false, not_or] at hy
        simp only [pick, hy, if_false]
      · rw [afE_succ, rowE, ef]
        simpa using kd _ q
      · exact ⟨_, cell_news N (.head _) hdc⟩
    · obtain ⟨ft, fw, rfl, hft, hfw⟩ := id hps
      (try dsimp only)
      (repeat' ((fail_if_success (with_reducible refine stop_at (by first | (constructor; done) | exact .call (by decide)) ?_)); first | (k_unfold; (try dsimp only)) | (k_end; wrow_close) | ((first | ((with_reducible show wpAny _ _ (call (Value.type _) [Value.ref _]) _ _ _); refine enum_call (by k_asm) (by k_asm) (by assumption) ?_; k_whole; intro hzz9 ezz9 Fzz9 Nzz9 hezz9; (try k_sweep)) | ((with_reducible show wpAny _ _ (subscriptTail _ _ (Value.ref _) (Value.int _ _)) _ _ _); first | (refine item_tupleT (Fr.tup (by k_asm) (by assumption)) (by decide) (by decide) (by rfl) (by rfl) ?_; k_whole) | ((with_reducible show wpAny _ _ (subscriptTail _ _ (Value.ref _) (Value.int 0 _)) _ _ _); refine itemT_head (by k_asm) (by assumption) ?_; k_whole) | (refine itemL_at (by k_asm) (by assumption) (by first | assumption | rfl) (by ktr_units) (by ktr_units) ?_; k_whole)) | ((with_reducible show wpAny _ _ (call (Value.builtin "len") [Value.ref _]) _ _ _); refine PyProof.Rows.len_list (Fr.lst (by k_asm) (by assumption)) (by ktr_units) ?_; k_whole) | ((with_reducible show wpAny _ _ (spliced _) _ _ _); refine' args_plain ?qSS ?qFF ?qkk ?qPP ?_; (case qSS => rfl); (case qFF => k_asm); (case qkk => rfl); (case qPP => repeat' first | exact Plain.nil | (apply Plain.name; exact rfl; exact rfl; decide) | apply Plain.none | apply Plain.bool | apply Plain.int | apply Plain.str); k_whole; (try dsimp only [List.cons_append, List.nil_append])) | walk1) <;> first | (with_reducible show wpAny _ _ (subscriptTail _ (PySem.Expr.Slice _ _ _ _) _ _) _ _ _) | (try dsimp only)) | (dsimp only; walk1) | (leave1; try dsimp only) | fail "no step"))
      refine wpAny_For ?_ (by intro _; rfl)
      (repeat' ((fail_if_success (with_reducible refine stop_at (by first | (constructor; done) | exact .call (by decide)) ?_)); first | (k_unfold; (try dsimp only)) | (k_end; wrow_close) | ((first | ((with_reducible show wpAny _ _ (call (Value.type _) [Value.ref _]) _ _ _); refine enum_call (by k_asm) (by k_asm) (by assumption) ?_; k_whole; intro hzz9 ezz9 Fzz9 Nzz9 hezz9; (try k_sweep)) | ((with_reducible show wpAny _ _ (subscriptTail _ _ (Value.ref _) (Value.int _ _)) _ _ _); first | (refine item_tupleT (Fr.tup (by k_asm) (by assumption)) (by decide) (by decide) (by rfl) (by rfl) ?_; k_whole) | ((with_reducible show wpAny _ _ (subscriptTail _ _ (Value.ref _) (Value.int 0 _)) _ _ _); refine itemT_head (by k_asm) (by assumption) ?_; k_whole) | (refine itemL_at (by k_asm) (by assumption) (by first | assumption | rfl) (by ktr_units) (by ktr_units) ?_; k_whole)) | ((with_reducible show wpAny _ _ (call (Value.builtin "len") [Value.ref _]) _ _ _); refine PyProof.Rows.len_list (Fr.lst (by k_asm) (by assumption)) (by ktr_units) ?_; k_whole) | ((with_reducible show wpAny _ _ (spliced _) _ _ _); refine' args_plain ?qSS ?qFF ?qkk ?qPP ?_; (case qSS => rfl); (case qFF => k_asm); (case qkk => rfl); (case qPP => repeat' first | exact Plain.nil | (apply Plain.name; exact rfl; exact rfl; decide) | apply Plain.none | apply Plain.bool | apply Plain.int | apply Plain.str); k_whole; (try dsimp only [List.cons_append, List.nil_append])) | walk1) <;> first | (with_reducible show wpAny _ _ (subscriptTail _ (PySem.Expr.Slice _ _ _ _) _ _) _ _ _) | (try dsimp only)) | (dsimp only; walk1) | (leave1; try dsimp only) | fail "no step"))
      rename IsRange _ _ _ _ _ _ _ _ => hR2; rename Fr _ _ _ _ => F₂; rename News _ _ _ _ => N₂
      have q₂ := kk _ _ _ F₂ N₂ (fun _ h => .tail _ h)
      have kt₁ := ki _ q₂
      have hD₂ := kd _ q₂
      have hc₂ : (_ : Heap).IsCell (L' + 1) _ := cell_news N₂ (.head _) hdc
      have hpl : ps.length ≤ 2 := hF.2.1 _ (List.mem_of_getElem? ef) _ rfl
      refine range_H (n := dvs.length) (fun j m h2 => AgreeOff [Str.ofString "index"] _ m ∧ DAt PySem.Challenge.pw_xm0585_01 w h2 _ (afE cs fs i ++ blockE i ps j) ∧ h2.IsCell (L' + 1) (some (.int (i : Int) t')) ∧ KeepIt h h2) rfl hR2 ?sm2 ?sz2 rfl rfl F₂
        ⟨.refl, by simpa [blockE] using hD₂, hc₂, kt₁⟩ ?stab2 ?step2 ?done2
      case sm2 => exact small_to (n := dvs.length) (by omega)
      case sz2 => exact size_to _
      case stab2 => exact fun j m h h' F hJ ko => ⟨hJ.1, dat_keeps F hdL (fun a o e ha hf => ko a o e ha (.inl hf)) hJ.2.1, let ⟨oc, hoc, hdc⟩ := hJ.2.2.1; ⟨oc, ko _ _ hoc c9.2.1 (.inl (by unfold isFields; rw [hdc])), hdc⟩, hJ.2.2.2.stab kt₁ nf ko⟩
      case done2 =>
        intro m' h' tk' hJ' F'
        have F9 := F'
        rw [AgreeOff.form hJ'.1] at F9
        clear F'
        (try dsimp only)
        (repeat' ((fail_if_success (with_reducible refine stop_at (by first | (constructor; done) | exact .call (by decide)) ?_)); first | (k_unfold; (try dsimp only)) | (k_end; wrow_close) | ((first | ((with_reducible show wpAny _ _ (call (Value.type _) [Value.ref _]) _ _ _); refine enum_call (by k_asm) (by k_asm) (by assumption) ?_; k_whole; intro hzz9 ezz9 Fzz9 Nzz9 hezz9; (try k_sweep)) | ((with_reducible show wpAny _ _ (subscriptTail _ _ (Value.ref _) (Value.int _ _)) _ _ _); first | (refine item_tupleT (Fr.tup (by k_asm) (by assumption)) (by decide) (by decide) (by rfl) (by rfl) ?_; k_whole) | ((with_reducible show wpAny _ _ (subscriptTail _ _ (Value.ref _) (Value.int 0 _)) _ _ _); refine itemT_head (by k_asm) (by assumption) ?_; k_whole) | (refine itemL_at (by k_asm) (by assumption) (by first | assumption | rfl) (by ktr_units) (by ktr_units) ?_; k_whole)) | ((with_reducible show wpAny _ _ (call (Value.builtin "len") [Value.ref _]) _ _ _); refine PyProof.Rows.len_list (Fr.lst (by k_asm) (by assumption)) (by ktr_units) ?_; k_whole) | ((with_reducible show wpAny _ _ (spliced _) _ _ _); refine' args_plain ?qSS ?qFF ?qkk ?qPP ?_; (case qSS => rfl); (case qFF => k_asm); (case qkk => rfl); (case qPP => repeat' first | exact Plain.nil | (apply Plain.name; exact rfl; exact rfl; decide) | apply Plain.none | apply Plain.bool | apply Plain.int | apply Plain.str); k_whole; (try dsimp only [List.cons_append, List.nil_append])) | walk1) <;> first | (with_reducible show wpAny _ _ (subscriptTail _ (PySem.Expr.Slice _ _ _ _) _ _) _ _ _) | (try dsimp only)) | (dsimp only; walk1) | (leave1; try dsimp only) | fail "no step"))
        (try dsimp only)
        refine ⟨_, _, _, rfl, F9, hJ'.2.2.2, ?_, ?_, ⟨_, hJ'.2.2.1⟩⟩
        · intro y hy
          simp only [List.mem_cons, List.not_mem_nil, or_false, not_or] at hy
          simp only [pick, hy, if_false]
        · have e9 : cs.getD i 0 = c := by rw [List.getD_eq_getElem?_getD, e2]; rfl
          rw [afE_succ, rowE, ef]
          dsimp only
          rw [e9, ← e3]
          exact hJ'.2.1
      case step2 =>
        intro j tj m₂ h2 tk2 hj hJ2 F₃
        refine hide (fun P9 toP9 => ?_)
        rw [show (0 + (j : Int) * 1) = (j : Int) by omega] at F₃
        obtain ⟨ha, hD3, ⟨o3, ho3, hd3⟩, kt2⟩ := hJ2
        rw [AgreeOff.form ha] at F₃
        obtain ⟨D3, N3, -, hDD⟩ := refresh F₃ News.nil
        have N3' : News g L' h2 ((L' + 1, o3) :: D3) := fun p hp => (List.mem_cons.mp hp).elim (fun q => q ▸ ⟨ho3, c9.2.1, c9.2.2⟩) (N3 p)
        have kk3 : ∀ h' m' news', Fr g L' h' m' → News g L' h' news' → (∀ p ∈ D3, p ∈ news') → ∀ b o, h2.get? b = some o → b ≠ L' → h'.get? b = some o := fun _ _ _ a b c => keepAll_of hDD a b c
        have ki3 := fun h' => keepIt_all (h' := h') F₃
        have kd3 := fun h' (q : ∀ b o, h2.get? b = some o → b ≠ L' → h'.get? b = some o) => dat_keeps (h' := h') F₃ hdL (fun x o e hx _ => q x o e hx) hD3
        clear hDD F₂ N₂ hR2 q₂ N3 hc₂
        (refine toP9 ?_; clear toP9 P9)
        (try dsimp only)
        (repeat' ((fail_if_success (with_reducible refine stop_at (by first | (constructor; done) | exact .call (by decide)) ?_)); first | (k_unfold; (try dsimp only)) | (k_end; wrow_close) | ((first | ((with_reducible show wpAny _ _ (call (Value.type _) [Value.ref _]) _ _ _); refine enum_call (by k_asm) (by k_asm) (by assumption) ?_; k_whole; intro hzz9 ezz9 Fzz9 Nzz9 hezz9; (try k_sweep)) | ((with_reducible show wpAny _ _ (subscriptTail _ _ (Value.ref _) (Value.int _ _)) _ _ _); first | (refine item_tupleT (Fr.tup (by k_asm) (by assumption)) (by decide) (by decide) (by rfl) (by rfl) ?_; k_whole) | ((with_reducible show wpAny _ _ (subscriptTail _ _ (Value.ref _) (Value.int 0 _)) _ _ _); refine itemT_head (by k_asm) (by assumption) ?_; k_whole) | (refine itemL_at (by k_asm) (by assumption) (by first | assumption | rfl) (by ktr_units) (by ktr_units) ?_; k_whole)) | ((with_reducible show wpAny _ _ (call (Value.builtin "len") [Value.ref _]) _ _ _); refine PyProof.Rows.len_list (Fr.lst (by k_asm) (by assumption)) (by ktr_units) ?_; k_whole) | ((with_reducible show wpAny _ _ (spliced _) _ _ _); refine' args_plain ?qSS ?qFF ?qkk ?qPP ?_; (case qSS => rfl); (case qFF => k_asm); (case qkk => rfl); (case qPP => repeat' first | exact Plain.nil | (apply Plain.name; exact rfl; exact rfl; decide) | apply Plain.none | apply Plain.bool | apply Plain.int | apply Plain.str); k_whole; (try dsimp only [List.cons_append, List.nil_append])) | walk1) <;> first | (with_reducible show wpAny _ _ (subscriptTail _ (PySem.Expr.Slice _ _ _ _) _ _) _ _ _) | (try dsimp only)) | (dsimp only; walk1) | (leave1; try dsimp only) | fail "no step"))
        rename Fr _ _ _ _ => F₄; rename News _ _ _ _ => N₄
        have q4 := kk3 _ _ _ F₄ N₄ (fun p hp => .tail _ hp)
        have hc4 := N₄ (L' + 1, o3) (.head _)
        refine hide (fun P9 toP9 => ?_)
        obtain ⟨D4, N4, -, hDD4⟩ := refresh F₄ News.nil
        (refine toP9 ?_; clear toP9 P9)
        have N4' : News g L' _ ((L' + 1, o3) :: D4) := fun p hp => (List.mem_cons.mp hp).elim (fun q => q ▸ hc4) (N4 p)
        have k45 : ∀ h' m' news', Fr g L' h' m' → News g L' h' news' → (∀ p ∈ D4, p ∈ news') → ∀ b o, Heap.get? _ b = some o → b ≠ L' → h'.get? b = some o := fun _ _ _ a b c => keepAll_of hDD4 a b c
        clear hDD4 N₄ N4
        refine ListComp_JF F₄ (fun H i' ys hh => PairsL hh ys (pts i i') ∧ ∀ b o, H.get? b = some o → b ≠ L' → hh.get? b = some o) ?stab3 (by with_unfolding_all rfl) (by decide) (by rfl) (by decide) ?_
        case stab3 => exact fun i' ys zs h h' C D mC F hC hD hC₀ hD₀ hJ kc => ⟨keepC_pairsL F hC hD kc hJ.1, keepC_old hC₀ hD₀ hJ.2 kc⟩
        (repeat' ((fail_if_success (with_reducible refine stop_at (by first | (constructor; done) | exact .call (by decide)) ?_)); first | (k_unfold; (try dsimp only)) | (k_end; wrow_close) | ((first | ((with_reducible show wpAny _ _ (call (Value.type _) [Value.ref _]) _ _ _); refine enum_call (by k_asm) (by k_asm) (by assumption) ?_; k_whole; intro hzz9 ezz9 Fzz9 Nzz9 hezz9; (try k_sweep)) | ((with_reducible show wpAny _ _ (subscriptTail _ _ (Value.ref _) (Value.int _ _)) _ _ _); first | (refine item_tupleT (Fr.tup (by k_asm) (by assumption)) (by decide) (by decide) (by rfl) (by rfl) ?_; k_whole) | ((with_reducible show wpAny _ _ (subscriptTail _ _ (Value.ref _) (Value.int 0 _)) _ _ _); refine itemT_head (by k_asm) (by assumption) ?_; k_whole) | (refine itemL_at (by k_asm) (by assumption) (by first | assumption | rfl) (by ktr_units) (by ktr_units) ?_; k_whole)) | ((with_reducible show wpAny _ _ (call (Value.builtin "len") [Value.ref _]) _ _ _); refine PyProof.Rows.len_list (Fr.lst (by k_asm) (by assumption)) (by ktr_units) ?_; k_whole) | ((with_reducible show wpAny _ _ (spliced _) _ _ _); refine' args_plain ?qSS ?qFF ?qkk ?qPP ?_; (case qSS => rfl); (case qFF => k_asm); (case qkk => rfl); (case qPP => repeat' first | exact Plain.nil | (apply Plain.name; exact rfl; exact rfl; decide) | apply Plain.none | apply Plain.bool | apply Plain.int | apply Plain.str); k_whole; (try dsimp only [List.cons_append, List.nil_append])) | walk1) <;> first | (with_reducible show wpAny _ _ (subscriptTail _ (PySem.Expr.Slice _ _ _ _) _ _) _ _ _) | (try dsimp only)) | (dsimp only; walk1) | (leave1; try dsimp only) | fail "no step"))
        rename IsRange _ _ _ _ _ _ _ _ => hR3; rename Fr _ _ _ _ => F₅; rename News _ _ _ _ => N₅
        have k5 := k45 _ _ _ F₅ N₅ (fun p hp => .tail _ hp)
        refine wpAny_pyIter_range hR3 (small_to (n := j) (by omega)) ?_
        rw [size_to]
        refine ⟨j, compJ_range rfl F₅ (fun b o e hb q => by rw [k5 b o e hb] at q; cases q) rfl rfl (by unfold sizeLine; omega) (fun h' kh => ⟨.nil, fun b o e hb => kh _ _ (k5 b o e hb)⟩) 0 1 ?el, ?after⟩
        case el =>
          intro C D i' hh tkh ys mC R hi' hy ⟨tt, hm1⟩ F₆ hC hD n1 n2 n3 n4 n5 hC₀ hD₀ hJ
          refine hide (fun P9 toP9 => ?_)
          rw [show (0 + (i' : Int) * 1) = (i' : Int) by omega] at hm1
          obtain ⟨oC, hoC, nC⟩ := LCg.ns_obj hC
          have hc6 := hJ.2 _ _ hc4.1 hc4.2.1
          obtain ⟨D6, N6, -, hDD6⟩ := refresh F₆ News.nil
          have N₆ : News g L' hh ((C, oC) :: (D, LCg.lst ys) :: (L' + 1, o3) :: D6) := by
            intro p hp
            rcases List.mem_cons.mp hp with rfl | hp
            · exact ⟨hoC, Ne.symm n2, n4⟩
            · rcases List.mem_cons.mp hp with rfl | hp
              · exact ⟨hD, Ne.symm n3, n5⟩
              · rcases List.mem_cons.mp hp with rfl | hp
                · exact ⟨hc6, hc4.2⟩
                · exact N6 p hp
          have k6 : ∀ h' m' news', Fr g L' h' m' → News g L' h' news' → (∀ p ∈ D6, p ∈ news') → ∀ b o, hh.get? b = some o → b ≠ L' → h'.get? b = some o := fun _ _ _ a b c => keepAll_of hDD6 a b c
          have ki6 := fun h' => keepIt_all (h' := h') F₆
          have kp6 := fun h' (q : ∀ b o, hh.get? b = some o → b ≠ L' → h'.get? b = some o) => pairsL_keeps (h' := h') F₆ (fun x o e hx _ => q x o e hx) hJ.1
          clear hDD6 N6 F₅ N₅
          (refine toP9 ?_; clear toP9 P9)
          (try dsimp only)
          (repeat' ((fail_if_success (with_reducible refine stop_at (by first | (constructor; done) | exact .call (by decide)) ?_)); first | (k_unfold; (try dsimp only)) | (k_end; wrow_close) | ((first | ((with_reducible show wpAny _ _ (call (Value.type _) [Value.ref _]) _ _ _); refine enum_call (by k_asm) (by k_asm) (by assumption) ?_; k_whole; intro hzz9 ezz9 Fzz9 Nzz9 hezz9; (try k_sweep)) | ((with_reducible show wpAny _ _ (subscriptTail _ _ (Value.ref _) (Value.int _ _)) _ _ _); first | (refine item_tupleT (Fr.tup (by k_asm) (by assumption)) (by decide) (by decide) (by rfl) (by rfl) ?_; k_whole) | ((with_reducible show wpAny _ _ (subscriptTail _ _ (Value.ref _) (Value.int 0 _)) _ _ _); refine itemT_head (by k_asm) (by assumption) ?_; k_whole) | (refine itemL_at (by k_asm) (by assumption) (by first | assumption | rfl) (by ktr_units) (by ktr_units) ?_; k_whole)) | ((with_reducible show wpAny _ _ (call (Value.builtin "len") [Value.ref _]) _ _ _); refine PyProof.Rows.len_list (Fr.lst (by k_asm) (by assumption)) (by ktr_units) ?_; k_whole) | ((with_reducible show wpAny _ _ (spliced _) _ _ _); refine' args_plain ?qSS ?qFF ?qkk ?qPP ?_; (case qSS => rfl); (case qFF => k_asm); (case qkk => rfl); (case qPP => repeat' first | exact Plain.nil | (apply Plain.name; exact rfl; exact rfl; decide) | apply Plain.none | apply Plain.bool | apply Plain.int | apply Plain.str); k_whole; (try dsimp only [List.cons_append, List.nil_append])) | walk1) <;> first | (with_reducible show wpAny _ _ (subscriptTail _ (PySem.Expr.Slice _ _ _ _) _ _) _ _ _) | (try dsimp only)) | (dsimp only; walk1) | (leave1; try dsimp only) | fail "no step"))
          rename Fr _ _ _ _ => F₇; rename News _ _ _ _ => N₇
          have q7 := k6 _ _ _ F₇ N₇ (fun p hp => .tail _ (.tail _ (.tail _ (.tail _ hp))))
          refine ⟨_, _, mC, rfl, F₇, nC.ns (N₇.get (.tail _ (.head _))), N₇.get (.tail _ (.tail _ (.head _))), ki6 _ q7, ?_, fun b o e hb => q7 b o (hJ.2 b o e hb) hb⟩
          rw [pts_succ]
          exact (kp6 _ q7).append (.cons (N₇.isTup (.head _)) .nil)
        case after =>
          intro D h3' tk3 ys hy F₇ hD e1 e2 e3 hJ
          refine hide (fun P9 toP9 => ?_)
          obtain ⟨D7, N7, -, hDD7⟩ := refresh F₇ News.nil
          have q47 := hJ.2
          have N₇ : News g L' h3' ((D, LCg.lst ys) :: D7) := by
            intro p hp
            rcases List.mem_cons.mp hp with rfl | hp
            · exact ⟨hD, e2, e1⟩
            · exact N7 p hp
          have k7 : ∀ h' m' news', Fr g L' h' m' → News g L' h' news' → (∀ p ∈ D7, p ∈ news') → ∀ b o, h3'.get? b = some o → b ≠ L' → h'.get? b = some o := fun _ _ _ a b c => keepAll_of hDD7 a b c
          have ki7 := fun h' => keepIt_all (h' := h') F₇
          have kp7 := fun h' (q : ∀ b o, h3'.get? b = some o → b ≠ L' → h'.get? b = some o) => pairsL_keeps (h' := h') F₇ (fun x o e hx _ => q x o e hx) hJ.1
          have q27 : ∀ b o, h2.get? b = some o → b ≠ L' → h3'.get? b = some o := fun b o e hb => q47 b o (q4 b o e hb) hb
          clear hDD7 N7; (try clear F₅); (try clear N₅); (try clear F₄); (try clear N4')
          (refine toP9 ?_; clear toP9 P9)
          (try dsimp only)
          (repeat' ((fail_if_success (with_reducible refine stop_at (by first | (constructor; done) | exact .call (by decide)) ?_)); first | (k_unfold; (try dsimp only)) | (k_end; wrow_close) | ((first | ((with_reducible show wpAny _ _ (call (Value.type _) [Value.ref _]) _ _ _); refine enum_call (by k_asm) (by k_asm) (by assumption) ?_; k_whole; intro hzz9 ezz9 Fzz9 Nzz9 hezz9; (try k_sweep)) | ((with_reducible show wpAny _ _ (subscriptTail _ _ (Value.ref _) (Value.int _ _)) _ _ _); first | (refine item_tupleT (Fr.tup (by k_asm) (by assumption)) (by decide) (by decide) (by rfl) (by rfl) ?_; k_whole) | ((with_reducible show wpAny _ _ (subscriptTail _ _ (Value.ref _) (Value.int 0 _)) _ _ _); refine itemT_head (by k_asm) (by assumption) ?_; k_whole) | (refine itemL_at (by k_asm) (by assumption) (by first | assumption | rfl) (by ktr_units) (by ktr_units) ?_; k_whole)) | ((with_reducible show wpAny _ _ (call (Value.builtin "len") [Value.ref _]) _ _ _); refine PyProof.Rows.len_list (Fr.lst (by k_asm) (by assumption)) (by ktr_units) ?_; k_whole) | ((with_reducible show wpAny _ _ (spliced _) _ _ _); refine' args_plain ?qSS ?qFF ?qkk ?qPP ?_; (case qSS => rfl); (case qFF => k_asm); (case qkk => rfl); (case qPP => repeat' first | exact Plain.nil | (apply Plain.name; exact rfl; exact rfl; decide) | apply Plain.none | apply Plain.bool | apply Plain.int | apply Plain.str); k_whole; (try dsimp only [List.cons_append, List.nil_append])) | walk1) <;> first | (with_reducible show wpAny _ _ (subscriptTail _ (PySem.Expr.Slice _ _ _ _) _ _) _ _ _) | (try dsimp only)) | (dsimp only; walk1) | (leave1; try dsimp only) | fail "no step"))
          rename Fr _ _ _ _ => F₈; rename News _ _ _ _ => N₈
          refine add_tups F₈ N₈ (F₈.tup hft) (N₈.isTup (.head _)) (by have := hfw.len; unfold sizeLine; omega) ?_
          intro r9 h9 F₉ N₉ hr9
          refine hide (fun P9 toP9 => ?_)
          have q9 := k7 _ _ _ F₉ N₉ (fun p hp => .tail _ (.tail _ hp))
          have q29 : ∀ b o, h2.get? b = some o → b ≠ L' → h9.get? b = some o := fun b o e hb => q9 b o (q27 b o e hb) hb
          have hp9 : PairsAt h9 (.ref r9) (ps ++ pts i j) := ⟨_, _, rfl, hr9, (hfw.mono F₉.keep).append (kp7 _ q9)⟩
          have hD9 := kd3 _ q29
          have kt9 := ki3 _ q29
          have hc9 := q29 _ _ ho3 c9.2.1
          obtain ⟨D9, N9, -, hDD9⟩ := refresh F₉ News.nil
          have N9' : News g L' h9 ((L' + 1, o3) :: D9) := fun p hp => (List.mem_cons.mp hp).elim (fun q => q ▸ ⟨hc9, c9.2⟩) (N9 p)
          have kk9 : ∀ h' m' news', Fr g L' h' m' → News g L' h' news' → (∀ p ∈ D9, p ∈ news') → ∀ b o, h9.get? b = some o → b ≠ L' → h'.get? b = some o := fun _ _ _ a b c => keepAll_of hDD9 a b c
          have ki9 := fun h' => keepIt_all (h' := h') F₉
          have kd9 := fun h' (q : ∀ b o, h9.get? b = some o → b ≠ L' → h'.get? b = some o) => dat_keeps (h' := h') F₉ hdL (fun x o e hx _ => q x o e hx) hD9
          have kp9 := fun h' (q : ∀ b o, h9.get? b = some o → b ≠ L' → h'.get? b = some o) => pairs_keeps (h' := h') F₉ (fun x o e hx _ => q x o e hx) hp9
          (try clear hDD9); (try clear F₈); (try clear N₈); (try clear N₉); (try clear N9); (try clear F₇); (try clear N₇); (try clear q9); (try clear k7)
          (refine toP9 ?_; clear toP9 P9)
          (try dsimp only)
          (repeat' ((fail_if_success (with_reducible refine stop_at (by first | (constructor; done) | exact .call (by decide)) ?_)); first | (k_unfold; (try dsimp only)) | (k_end; wrow_close) | ((first | ((with_reducible show wpAny _ _ (call (Value.type _) [Value.ref _]) _ _ _); refine enum_call (by k_asm) (by k_asm) (by assumption) ?_; k_whole; intro hzz9 ezz9 Fzz9 Nzz9 hezz9; (try k_sweep)) | ((with_reducible show wpAny _ _ (subscriptTail _ _ (Value.ref _) (Value.int _ _)) _ _ _); first | (refine item_tupleT (Fr.tup (by k_asm) (by assumption)) (by decide) (by decide) (by rfl) (by rfl) ?_; k_whole) | ((with_reducible show wpAny _ _ (subscriptTail _ _ (Value.ref _) (Value.int 0 _)) _ _ _); refine itemT_head (by k_asm) (by assumption) ?_; k_whole) | (refine itemL_at (by k_asm) (by assumption) (by first | assumption | rfl) (by ktr_units) (by ktr_units) ?_; k_whole)) | ((with_reducible show wpAny _ _ (call (Value.builtin "len") [Value.ref _]) _ _ _); refine PyProof.Rows.len_list (Fr.lst (by k_asm) (by assumption)) (by ktr_units) ?_; k_whole) | ((with_reducible show wpAny _ _ (spliced _) _ _ _); refine' args_plain ?qSS ?qFF ?qkk ?qPP ?_; (case qSS => rfl); (case qFF => k_asm); (case qkk => rfl); (case qPP => repeat' first | exact Plain.nil | (apply Plain.name; exact rfl; exact rfl; decide) | apply Plain.none | apply Plain.bool | apply Plain.int | apply Plain.str); k_whole; (try dsimp only [List.cons_append, List.nil_append])) | walk1) <;> first | (with_reducible show wpAny _ _ (subscriptTail _ (PySem.Expr.Slice _ _ _ _) _ _) _ _ _) | (try dsimp only)) | (dsimp only; walk1) | (leave1; try dsimp only) | fail "no step"))
          rename Fr _ _ _ _ => F₄; rename News _ _ _ _ => N₄
          have q4 := kk9 _ _ _ F₄ N₄ (fun p hp => .tail _ (.tail _ hp))
          have hl4 : (afE cs fs i ++ blockE i ps j).length < 1000 := by
            have := afE_len (fs := fs) hR.2.2.1 i
            rw [List.length_append, blockE_len]; omega
          have hD4 := kd9 _ q4
          refine dat_set (ps := ps ++ pts i j) (by ktr_room) hD4 (N₄.isTup (.head _)) (kp9 _ q4) fresh_key hl4 ?_
          intro h5 tk5 hD5 hs5
          refine hide (fun P9 toP9 => ?_)
          have F₅ := F₄.change hs5 hdL hdg
          have hcL4 := N₄ (L' + 1, o3) (.tail _ (.head _))
          have hc5 := pairs_cell hD4 hs5 hcL4.1 hd3
          have kt5 := kt9.trans ((ki9 _ q4).trans (keepIt_set hD4 hs5))
          obtain ⟨D5, N5, -, hD55⟩ := refresh F₅ News.nil
          have N5' : News g L' h5 ((L' + 1, o3) :: D5) := fun p hp => (List.mem_cons.mp hp).elim (fun q => q ▸ ⟨hc5, c9.2⟩) (N5 p)
          have kk5 : ∀ h' m' news', Fr g L' h' m' → News g L' h' news' → (∀ p ∈ D5, p ∈ news') → ∀ b o, h5.get? b = some o → b ≠ L' → h'.get? b = some o := fun _ _ _ a b c => keepAll_of hD55 a b c
          have ki5 := fun h' => keepIt_all (h' := h') F₅
          have kd5 := fun h' (q : ∀ b o, h5.get? b = some o → b ≠ L' → h'.get? b = some o) => dat_keeps (h' := h') F₅ hdL (fun x o e hx _ => q x o e hx) hD5
          (try clear hD55); (try clear F₄); (try clear N₄); (try clear F₉); (try clear q4); (try clear hD4); (try clear N9')
          (refine toP9 ?_; clear toP9 P9)
          (try dsimp only)
          (repeat' ((fail_if_success (with_reducible refine stop_at (by first | (constructor; done) | exact .call (by decide)) ?_)); first | (k_unfold; (try dsimp only)) | (k_end; wrow_close) | ((first | ((with_reducible show wpAny _ _ (call (Value.type _) [Value.ref _]) _ _ _); refine enum_call (by k_asm) (by k_asm) (by assumption) ?_; k_whole; intro hzz9 ezz9 Fzz9 Nzz9 hezz9; (try k_sweep)) | ((with_reducible show wpAny _ _ (subscriptTail _ _ (Value.ref _) (Value.int _ _)) _ _ _); first | (refine item_tupleT (Fr.tup (by k_asm) (by assumption)) (by decide) (by decide) (by rfl) (by rfl) ?_; k_whole) | ((with_reducible show wpAny _ _ (subscriptTail _ _ (Value.ref _) (Value.int 0 _)) _ _ _); refine itemT_head (by k_asm) (by assumption) ?_; k_whole) | (refine itemL_at (by k_asm) (by assumption) (by first | assumption | rfl) (by ktr_units) (by ktr_units) ?_; k_whole)) | ((with_reducible show wpAny _ _ (call (Value.builtin "len") [Value.ref _]) _ _ _); refine PyProof.Rows.len_list (Fr.lst (by k_asm) (by assumption)) (by ktr_units) ?_; k_whole) | ((with_reducible show wpAny _ _ (spliced _) _ _ _); refine' args_plain ?qSS ?qFF ?qkk ?qPP ?_; (case qSS => rfl); (case qFF => k_asm); (case qkk => rfl); (case qPP => repeat' first | exact Plain.nil | (apply Plain.name; exact rfl; exact rfl; decide) | apply Plain.none | apply Plain.bool | apply Plain.int | apply Plain.str); k_whole; (try dsimp only [List.cons_append, List.nil_append])) | walk1) <;> first | (with_reducible show wpAny _ _ (subscriptTail _ (PySem.Expr.Slice _ _ _ _) _ _) _ _ _) | (try dsimp only)) | (dsimp only; walk1) | (leave1; try dsimp only) | fail "no step"))
          (try dsimp only)
          rename Fr _ _ _ _ => F₉; rename News _ _ _ _ => N₉
          have q9 := kk5 _ _ _ F₉ N₉ (fun _ h => .tail _ h)
          have kt9 := kt5.trans (ki5 _ q9)
          refine ⟨_, _, _, rfl, F₉, kt9, ?_, ?_, ⟨_, N₉.get (.head _), hd3⟩, kt2.trans kt9⟩
          · intro y hy
            simp only [List.mem_cons, List.not_mem_nil, or_false, not_or] at hy
            simp only [pick, hy, if_false]
          · rw [blockE_succ, ← List.append_assoc]
            exact kd5 _ q9
theorem TermAt.len {h : Heap} {a b : Value} {gs : List Int} (x : TermAt h a b gs) : gs.length ≤ 3 := by cases x <;> simp
theorem TermAt.isRef {h : Heap} {a b : Value} {gs : List Int} (x : TermAt h a b gs) : ∃ tm, a = .ref tm := by cases x <;> exact ⟨_, rfl⟩
/-- facts at the starts of blocks, each told -/
def FullAt (h : Heap) (fvs : List Value) (fs : List (List (Int × Int))) : Prop := fvs.length = fs.length ∧ (∀ f ∈ fs, f.length ≤ 2) ∧ ∀ (i : Nat) (v : Value), fvs[i]? = some v → ∃ ps, PairsAt h v ps ∧ fs[i]? = some ps
theorem FullAt.mono {h h' : Heap} (k : ∀ b o, h.get? b = some o → h'.get? b = some o) {fvs : List Value} {fs} (x : FullAt h fvs fs) : FullAt h' fvs fs :=
  ⟨x.1, x.2.1, fun i v e => let ⟨ps, a, b⟩ := x.2.2 i v e; ⟨ps, a.mono k, b⟩⟩
/-- the facts of blocks, one after another -/
def joinE (fs : List (List (Int × Int))) (gs : List Int) : List (Int × Int) := gs.flatMap fun g => fs.getD g.toNat []
theorem joinE_snoc (fs gs) (g : Int) : joinE fs (gs ++ [g]) = joinE fs gs ++ fs.getD g.toNat [] := by simp [joinE]
theorem joinE_len {fs : List (List (Int × Int))} (hf : ∀ f ∈ fs, f.length ≤ 2) : ∀ gs : List Int, (joinE fs gs).length ≤ 2 * gs.length
  | [] => by simp [joinE]
  | g :: gs => by
    have h1 := joinE_len hf gs
    have h2 : (fs.getD g.toNat []).length ≤ 2 := by
      rw [List.getD_eq_getElem?_getD]
      cases e : fs[g.toNat]? with
      | none => simp
      | some f => exact hf f (List.mem_of_getElem? e)
    simp only [joinE, List.flatMap_cons, List.length_append, List.length_cons] at h1 ⊢
    omega
section
variable {g h h' : Heap} {L : Addr} {m : Str → Option Value}
theorem lst_keeps {a : Addr} {items : Array Value} (F : Fr g L h m) (k : ∀ b o, h.get? b = some o → b ≠ L → isFields o = false → h'.get? b = some o) (x : h.IsList a items) : h'.IsList a items := by
  obtain ⟨o, ho, hc, n, hd⟩ := x
  exact ⟨o, k _ _ ho (seq_ne_ns F ho hd) (by unfold isFields; rw [hd]), hc, n, hd⟩
end
section
variable {w : World} {mean : ExcName → Option Value} {mg mb : Str → Option Value} {g : Heap} {L : Addr} {m : Str → Option Value} {news : List (Addr × Obj)} {s : Shared} {dp un : Nat} {gd : Option (List Code)} {fr : Option (List Env)} {f f2 : Value} {ps qs : List (Int × Int)} {Q E : Value → Shared → Prop}
theorem joined_use (F : Fr g L s.heap m) (X : (Mine.hd.heap_1 w.params).In g) (T : Top Mine.vw (looseW Mine.vw []) mean mg mb g) (N : News g L s.heap news) (hf : PairsAt s.heap f ps) (hf2 : PairsAt s.heap f2 qs) (hl : ps.length < 1000) (hl2 : qs.length < 1000)
    (hd : dp + 1 < recursionLimit) (hu : un + 100 < cLine)
    (ret : ∀ v h' tk', (∀ b o, s.heap.get? b = some o → h'.get? b = some o) → Fr g L h' m → News g L h' news → PairsAt h' v (ps ++ qs) → Q v { s with heap := h', toks := tk' }) :
    wpAny (model PySem.Challenge.pw_xm0585_01 w) (arnd dp un gd fr) (call (.ref 201) [f, f2]) Q E s :=
  joined_ok X T F.keep hd hu hf hf2 hl hl2 fun v h' tk' k hv => ret v h' tk' k ⟨F.ns.keeps k, fun b o e => k b o (F.keep b o e), F.above⟩ (N.keeps k) hv
theorem succ_use {tm : Addr} {dv : Value} {gs : List Int} (F : Fr g L s.heap m) (X : (Mine.hd.heap_1 w.params).In g) (T : Top Mine.vw (looseW Mine.vw []) mean mg mb g) (N : News g L s.heap news) (ht : TermAt s.heap (.ref tm) dv gs)
    (hd : dp + 1 < recursionLimit) (hu : un + 100 < cLine)
    (ret : ∀ r vs h' tk', (∀ b o, s.heap.get? b = some o → h'.get? b = some o) → Fr g L h' m → News g L h' news → h'.IsList r (List.toArray vs) → IntsAre vs (uniq gs) → Q (.ref r) { s with heap := h', toks := tk' }) :
    wpAny (model PySem.Challenge.pw_xm0585_01 w) (arnd dp un gd fr) (call (.ref 91) [.ref tm]) Q E s :=
  succ_ok X T F.keep hd hu ht fun r vs h' tk' k hv hi => ret r vs h' tk' k ⟨F.ns.keeps k, fun b o e => k b o (F.keep b o e), F.above⟩ (N.keeps k) hv hi
end
set_option maxRecDepth 100000 in
set_option maxHeartbeats 2000000 in
theorem behind_ok {w : World} {mean : ExcName → Option Value} {mg mb : Str → Option Value} {h₀ : Heap} {s : Shared} {dp un : Nat} {gd : Option (List Code)} {fr : Option (List Env)} {body bl fl bk sl tm : Addr} {bvs fvs : List Value} {fs : List (List (Int × Int))} {i : Int} {ti : Tok} {dv ev : Value} {gs : List Int} {ps : List (Int × Int)} {Q E : Value → Shared → Prop}
    (X : (Mine.hd.heap_1 w.params).In h₀) (T : Top Mine.vw (looseW Mine.vw []) mean mg mb h₀) (st0 : h₀.StaysIn s.heap)
    (hd : dp + 2 < recursionLimit) (hu : un + 110 < cLine)
    (hB : BodyAt s.heap body bl) (hbl : s.heap.IsList bl bvs.toArray) (hi0 : 0 ≤ i) (hi4 : i < 4) (hbv : bvs[i.toNat]? = some (.ref bk)) (hbk : s.heap.IsList bk [.ref sl, .ref tm].toArray) (ht : TermAt s.heap (.ref tm) dv gs) (hg : ∀ g ∈ gs, 0 ≤ g ∧ g < fs.length)
    (hfl : s.heap.IsList fl fvs.toArray) (hF : FullAt s.heap fvs fs) (hf4 : fs.length ≤ 4) (hev : PairsAt s.heap ev ps) (hps : ps.length ≤ 10)
    (hQ : ∀ v h' tk', s.heap.StaysIn h' → PairsAt h' v (ps ++ joinE fs (uniq gs)) → Q v { s with heap := h', toks := tk' }) :
    wpAny (model PySem.Challenge.pw_xm0585_01 w) (arnd dp un gd fr) (call (.ref 105) [.ref body, .ref fl, .int i ti, ev, .ref 201]) Q E s := by
  refine' enter (news := []) X T st0 (fun _ h => nomatch h) (fun _ h => nomatch h) ?ho ?hcd ?hroom ?hbind ?hloc ?_ ?c2 ?c3 ?c4 ?c5
  ((case ho => k_dflt k_is); (case hcd => k_dflt k_is); (case hroom => ktr_room); (case hbind => exact BindsTo.of_eq rfl); (case c2 => decide); (case c3 => exact rfl); (case c4 => exact rfl); (case c5 => exact rfl); (case hloc => exact locs rfl))
  intro g L' h₁' st1 st2 keep F' N' X' T' nL l1 d' u' fr' hd' hu'
  change Fr _ _ _ (fun y => List.lookup y [(_, _), (_, _), (_, _), (_, _), (_, _)]) at F'
  refine hide (fun P9 toP9 => ?_)
  have k : ∀ b o, s.heap.get? b = some o → g.get? b = some o := fun b o e => keep b o e (fun h => nomatch h)
  replace hB := hB.mono k; replace hbl := hbl.at (k bl); replace hbk := hbk.at (k bk); replace ht := ht.mono k; replace hfl := hfl.at (k fl); replace hF := hF.mono k; replace hev := hev.mono k
  clear l1
  obtain ⟨dx, k1, k2, k3, k4, k5, t1, t2, t3, t4, t5, v1, v2, v3, v5, nb, hb1, hb2⟩ := hB
  (refine toP9 ?_; clear toP9 P9)
  (try dsimp only)
  (repeat' ((fail_if_success (with_reducible refine stop_at (by first | (constructor; done) | exact .call (by decide)) ?_)); first | (k_unfold; (try dsimp only)) | (k_end; wrow_close) | ((first | ((with_reducible show wpAny _ _ (subscriptTail _ _ (Value.ref _) (Value.int _ _)) _ _ _); first | (refine item_tupleT (Fr.tup (by k_asm) (by assumption)) (by decide) (by decide) (by rfl) (by rfl) ?_; k_whole) | ((with_reducible show wpAny _ _ (subscriptTail _ _ (Value.ref _) (Value.int 0 _)) _ _ _); refine itemT_head (by k_asm) (by assumption) ?_; k_whole) | (refine itemL_at (by k_asm) (by assumption) (by first | assumption | rfl) (by ktr_units) (by ktr_units) ?_; k_whole)) | ((with_reducible show wpAny _ _ (spliced _) _ _ _); refine' args_plain ?qSS ?qFF ?qkk ?qPP ?_; (case qSS => rfl); (case qFF => k_asm); (case qkk => rfl); (case qPP => repeat' first | exact Plain.nil | (apply Plain.name; exact rfl; exact rfl; decide) | apply Plain.none | apply Plain.bool | apply Plain.int | apply Plain.str); k_whole; (try dsimp only [List.cons_append, List.nil_append])) | walk1) <;> first | (with_reducible show wpAny _ _ (subscriptTail _ (PySem.Expr.Slice _ _ _ _) _ _) _ _ _) | (try dsimp only)) | (dsimp only; walk1) | (leave1; try dsimp only) | fail "no step"))
  refine wpAny_For ?_ (by intro _; rfl)
  (repeat' ((fail_if_success (with_reducible refine stop_at (by first | (constructor; done) | exact .call (by decide)) ?_)); first | (k_unfold; (try dsimp only)) | (k_end; wrow_close) | ((first | ((with_reducible show wpAny _ _ (subscriptTail _ _ (Value.ref _) (Value.int _ _)) _ _ _); first | (refine item_tupleT (Fr.tup (by k_asm) (by assumption)) (by decide) (by decide) (by rfl) (by rfl) ?_; k_whole) | ((with_reducible show wpAny _ _ (subscriptTail _ _ (Value.ref _) (Value.int 0 _)) _ _ _); refine itemT_head (by k_asm) (by assumption) ?_; k_whole) | (refine itemL_at (by k_asm) (by assumption) (by first | assumption | rfl) (by ktr_units) (by ktr_units) ?_; k_whole)) | ((with_reducible show wpAny _ _ (spliced _) _ _ _); refine' args_plain ?qSS ?qFF ?qkk ?qPP ?_; (case qSS => rfl); (case qFF => k_asm); (case qkk => rfl); (case qPP => repeat' first | exact Plain.nil | (apply Plain.name; exact rfl; exact rfl; decide) | apply Plain.none | apply Plain.bool | apply Plain.int | apply Plain.str); k_whole; (try dsimp only [List.cons_append, List.nil_append])) | walk1) <;> first | (with_reducible show wpAny _ _ (subscriptTail _ (PySem.Expr.Slice _ _ _ _) _ _) _ _ _) | (try dsimp only)) | (dsimp only; walk1) | (leave1; try dsimp only) | fail "no step"))
  rename Fr _ _ _ _ => F₀; rename News _ _ _ _ => N₀
  refine succ_use F₀ X' T' N₀ (ht.mono F₀.keep) (by ktr_room) (by ktr_room) ?_
  intro r vs h1 tk1 _ F₁ N₁ hr hvs
  refine hide (fun P9 toP9 => ?_)
  have hlen : vs.length ≤ 3 := by have := ints_len hvs; have := uniq_len gs; have := ht.len; omega
  have hgs : ∀ g ∈ uniq gs, 0 ≤ g ∧ g < fs.length := fun g h => hg g (uniq_mem h)
  obtain ⟨D, N, -, hD1⟩ := refresh F₁ News.nil
  have kk : ∀ h' m' news', Fr g L' h' m' → News g L' h' news' → (∀ p ∈ D, p ∈ news') → ∀ b o, h1.get? b = some o → b ≠ L' → h'.get? b = some o := fun _ _ _ a b c => keepAll_of hD1 a b c
  have kl := fun h' (q : ∀ b o, h1.get? b = some o → b ≠ L' → h'.get? b = some o) => lst_keeps (h' := h') F₁ (fun x o e hx _ => q x o e hx) hr
  clear hD1 F₀ N₀ N₁
  (refine toP9 ?_; clear toP9 P9)
  (try dsimp only)
  (repeat' ((fail_if_success (with_reducible refine stop_at (by first | (constructor; done) | exact .call (by decide)) ?_)); first | (k_unfold; (try dsimp only)) | (k_end; wrow_close) | ((first | ((with_reducible show wpAny _ _ (subscriptTail _ _ (Value.ref _) (Value.int _ _)) _ _ _); first | (refine item_tupleT (Fr.tup (by k_asm) (by assumption)) (by decide) (by decide) (by rfl) (by rfl) ?_; k_whole) | ((with_reducible show wpAny _ _ (subscriptTail _ _ (Value.ref _) (Value.int 0 _)) _ _ _); refine itemT_head (by k_asm) (by assumption) ?_; k_whole) | (refine itemL_at (by k_asm) (by assumption) (by first | assumption | rfl) (by ktr_units) (by ktr_units) ?_; k_whole)) | ((with_reducible show wpAny _ _ (spliced _) _ _ _); refine' args_plain ?qSS ?qFF ?qkk ?qPP ?_; (case qSS => rfl); (case qFF => k_asm); (case qkk => rfl); (case qPP => repeat' first | exact Plain.nil | (apply Plain.name; exact rfl; exact rfl; decide) | apply Plain.none | apply Plain.bool | apply Plain.int | apply Plain.str); k_whole; (try dsimp only [List.cons_append, List.nil_append])) | walk1) <;> first | (with_reducible show wpAny _ _ (subscriptTail _ (PySem.Expr.Slice _ _ _ _) _ _) _ _ _) | (try dsimp only)) | (dsimp only; walk1) | (leave1; try dsimp only) | fail "no step"))
  rename Fr _ _ _ _ => F₂; rename News _ _ _ _ => N₂
  have q₂ := kk _ _ _ F₂ N₂ (fun _ h => h)
  have hr₂ := kl _ q₂
  refine list_H (vs := vs) (fun j m h => AgreeOff [Str.ofString "here", Str.ofString "target"] _ m ∧ (∃ v', m (Str.ofString "here") = some v' ∧ PairsAt h v' (ps ++ joinE fs ((uniq gs).take j))) ∧ h.IsList r vs.toArray) rfl hr₂ rfl rfl F₂
    ⟨.refl, ⟨_, rfl, by simpa [joinE] using hev.mono F₂.keep⟩, hr₂⟩ ?stab (fun _ _ _ hJ => hJ.2.2) ?step ?done
  case stab => exact fun j m h h' F hJ ko => ⟨hJ.1, let ⟨v', a, b⟩ := hJ.2.1; ⟨v', a, pairs_keeps F (fun x o e hx hf => ko x o e hx (.inl hf)) b⟩, lst_keeps F (fun x o e hx hf => ko x o e hx (.inl hf)) hJ.2.2⟩
  case done =>
    intro m' h' tk' hJ F'
    refine hide (fun P9 toP9 => ?_)
    obtain ⟨ha, ⟨v', hm, hp'⟩, -⟩ := hJ
    (refine toP9 ?_; clear toP9 P9)
    have F9 := F'
    rw [AgreeOff.form1 ha hm] at F9
    rw [ints_len hvs, List.take_length] at hp'
    clear F'
    (try dsimp only)
    refine hide (fun P9 toP9 => ?_)
    obtain ⟨D3, N3, -, hDD⟩ := refresh F9 News.nil
    (refine toP9 ?_; clear toP9 P9)
    have kk3 : ∀ h2 m2 news', Fr g L' h2 m2 → News g L' h2 news' → (∀ p ∈ D3, p ∈ news') → ∀ b o, h'.get? b = some o → b ≠ L' → h2.get? b = some o := fun _ _ _ a b c => keepAll_of hDD a b c
    have kp3 := fun h2 (q : ∀ b o, h'.get? b = some o → b ≠ L' → h2.get? b = some o) => pairs_keeps (h' := h2) F9 (fun x o e hx _ => q x o e hx) hp'
    clear hDD
    (repeat' ((fail_if_success (with_reducible refine stop_at (by first | (constructor; done) | exact .call (by decide)) ?_)); first | (k_unfold; (try dsimp only)) | (k_end; wrow_close) | ((first | ((with_reducible show wpAny _ _ (subscriptTail _ _ (Value.ref _) (Value.int _ _)) _ _ _); first | (refine item_tupleT (Fr.tup (by k_asm) (by assumption)) (by decide) (by decide) (by rfl) (by rfl) ?_; k_whole) | ((with_reducible show wpAny _ _ (subscriptTail _ _ (Value.ref _) (Value.int 0 _)) _ _ _); refine itemT_head (by k_asm) (by assumption) ?_; k_whole) | (refine itemL_at (by k_asm) (by assumption) (by first | assumption | rfl) (by ktr_units) (by ktr_units) ?_; k_whole)) | ((with_reducible show wpAny _ _ (spliced _) _ _ _); refine' args_plain ?qSS ?qFF ?qkk ?qPP ?_; (case qSS => rfl); (case qFF => k_asm); (case qkk => rfl); (case qPP => repeat' first | exact Plain.nil | (apply Plain.name; exact rfl; exact rfl; decide) | apply Plain.none | apply Plain.bool | apply Plain.int | apply Plain.str); k_whole; (try dsimp only [List.cons_append, List.nil_append])) | walk1) <;> first | (with_reducible show wpAny _ _ (subscriptTail _ (PySem.Expr.Slice _ _ _ _) _ _) _ _ _) | (try dsimp only)) | (dsimp only; walk1) | (leave1; try dsimp only) | fail "no step"))
    (try dsimp only)
    rename Fr _ _ _ _ => F; rename News _ _ _ _ => N
    exact hQ _ _ _ (fun b o e => F.keep b o (k b o e)) (kp3 _ (kk3 _ _ _ F N (fun _ h => h)))
  case step =>
    intro j v m₂ h2 tk2 hv hJ F₃
    refine hide (fun P9 toP9 => ?_)
    obtain ⟨n, tn, rfl, hgn⟩ := ints_get hvs j _ hv
    obtain ⟨ha, ⟨v', hm, hp'⟩, hr3⟩ := hJ
    rw [AgreeOff.form1 ha hm] at F₃
    obtain ⟨hn0, hn1⟩ := hgs n (List.mem_of_getElem? hgn)
    have hfz : n.toNat < fvs.length := by have := hF.1; omega
    obtain ⟨fv, hfv⟩ : ∃ v, fvs[n.toNat]? = some v := ⟨fvs[n.toNat], List.getElem?_eq_getElem hfz⟩
    obtain ⟨qs, hqs, efs⟩ := hF.2.2 _ _ hfv
    obtain ⟨D3, N3, -, hDD⟩ := refresh F₃ News.nil
    have kk3 : ∀ h' m' news', Fr g L' h' m' → News g L' h' news' → (∀ p ∈ D3, p ∈ news') → ∀ b o, h2.get? b = some o → b ≠ L' → h'.get? b = some o := fun _ _ _ a b c => keepAll_of hDD a b c
    have ki3 := fun h' => keepIt_all (h' := h') F₃
    have kp3 := fun h' (q : ∀ b o, h2.get? b = some o → b ≠ L' → h'.get? b = some o) => pairs_keeps (h' := h') F₃ (fun x o e hx _ => q x o e hx) hp'
    have kl3 := fun h' (q : ∀ b o, h2.get? b = some o → b ≠ L' → h'.get? b = some o) => lst_keeps (h' := h') F₃ (fun x o e hx _ => q x o e hx) hr3
    have hql : qs.length ≤ 2 := hF.2.1 _ (List.mem_of_getElem? efs)
    have hpl : (ps ++ joinE fs ((uniq gs).take j)).length < 1000 := by
      have h1 := joinE_len hF.2.1 ((uniq gs).take j)
      have h2 := List.length_take_le' j (uniq gs)
      have h3 := ints_len hvs
      rw [List.length_append]; omega
    (try clear hDD); (try clear F₂); (try clear N₂); (try clear q₂); (try clear F₁)
    (refine toP9 ?_; clear toP9 P9)
    (try dsimp only)
    (repeat' ((fail_if_success (with_reducible refine stop_at (by first | (constructor; done) | exact .call (by decide)) ?_)); first | (k_unfold; (try dsimp only)) | (k_end; wrow_close) | ((first | ((with_reducible show wpAny _ _ (subscriptTail _ _ (Value.ref _) (Value.int _ _)) _ _ _); first | (refine item_tupleT (Fr.tup (by k_asm) (by assumption)) (by decide) (by decide) (by rfl) (by rfl) ?_; k_whole) | ((with_reducible show wpAny _ _ (subscriptTail _ _ (Value.ref _) (Value.int 0 _)) _ _ _); refine itemT_head (by k_asm) (by assumption) ?_; k_whole) | (refine itemL_at (by k_asm) (by assumption) (by first | assumption | rfl) (by ktr_units) (by ktr_units) ?_; k_whole)) | ((with_reducible show wpAny _ _ (spliced _) _ _ _); refine' args_plain ?qSS ?qFF ?qkk ?qPP ?_; (case qSS => rfl); (case qFF => k_asm); (case qkk => rfl); (case qPP => repeat' first | exact Plain.nil | (apply Plain.name; exact rfl; exact rfl; decide) | apply Plain.none | apply Plain.bool | apply Plain.int | apply Plain.str); k_whole; (try dsimp only [List.cons_append, List.nil_append])) | walk1) <;> first | (with_reducible show wpAny _ _ (subscriptTail _ (PySem.Expr.Slice _ _ _ _) _ _) _ _ _) | (try dsimp only)) | (dsimp only; walk1) | (leave1; try dsimp only) | fail "no step"))
    rename Fr _ _ _ _ => F₄; rename News _ _ _ _ => N₄
    have q4 := kk3 _ _ _ F₄ N₄ (fun p hp => hp)
    refine joined_use F₄ X' T' N₄ (kp3 _ q4) (hqs.mono F₄.keep) hpl (by omega) (by ktr_room) (by ktr_room) ?_
    intro v7 h7 tk7 st7 F₇ N₇ hv7
    refine hide (fun P9 toP9 => ?_)
    have q57 : ∀ b o, h2.get? b = some o → b ≠ L' → h7.get? b = some o := fun b o e hb => st7 b o (q4 b o e hb)
    have kt7 := ki3 _ q57
    have hr7 := kl3 _ q57
    obtain ⟨D7, N8, -, hD77⟩ := refresh F₇ News.nil
    have kk7 : ∀ h' m' news', Fr g L' h' m' → News g L' h' news' → (∀ p ∈ D7, p ∈ news') → ∀ b o, h7.get? b = some o → b ≠ L' → h'.get? b = some o := fun _ _ _ a b c => keepAll_of hD77 a b c
    have ki7 := fun h' => keepIt_all (h' := h') F₇
    have kp7 := fun h' (q : ∀ b o, h7.get? b = some o → b ≠ L' → h'.get? b = some o) => pairs_keeps (h' := h') F₇ (fun x o e hx _ => q x o e hx) hv7
    have kl7 := fun h' (q : ∀ b o, h7.get? b = some o → b ≠ L' → h'.get? b = some o) => lst_keeps (h' := h') F₇ (fun x o e hx _ => q x o e hx) hr7
    (try clear hD77); (try clear F₄); (try clear N₄); (try clear N₇); (try clear F₃); (try clear q4); (try clear q57); (try clear N3)
    (refine toP9 ?_; clear toP9 P9)
    (try dsimp only)
    (repeat' ((fail_if_success (with_reducible refine stop_at (by first | (constructor; done) | exact .call (by decide)) ?_)); first | (k_unfold; (try dsimp only)) | (k_end; wrow_close) | ((first | ((with_reducible show wpAny _ _ (subscriptTail _ _ (Value.ref _) (Value.int _ _)) _ _ _); first | (refine item_tupleT (Fr.tup (by k_asm) (by assumption)) (by decide) (by decide) (by rfl) (by rfl) ?_; k_whole) | ((with_reducible show wpAny _ _ (subscriptTail _ _ (Value.ref _) (Value.int 0 _)) _ _ _); refine itemT_head (by k_asm) (by assumption) ?_; k_whole) | (refine itemL_at (by k_asm) (by assumption) (by first | assumption | rfl) (by ktr_units) (by ktr_units) ?_; k_whole)) | ((with_reducible show wpAny _ _ (spliced _) _ _ _); refine' args_plain ?qSS ?qFF ?qkk ?qPP ?_; (case qSS => rfl); (case qFF => k_asm); (case qkk => rfl); (case qPP => repeat' first | exact Plain.nil | (apply Plain.name; exact rfl; exact rfl; decide) | apply Plain.none | apply Plain.bool | apply Plain.int | apply Plain.str); k_whole; (try dsimp only [List.cons_append, List.nil_append])) | walk1) <;> first | (with_reducible show wpAny _ _ (subscriptTail _ (PySem.Expr.Slice _ _ _ _) _ _) _ _ _) | (try dsimp only)) | (dsimp only; walk1) | (leave1; try dsimp only) | fail "no step"))
    (try dsimp only)
    rename Fr _ _ _ _ => F₉; rename News _ _ _ _ => N₉
    have q9 := kk7 _ _ _ F₉ N₉ (fun _ h => h)
    have kt9 := kt7.trans (ki7 _ q9)
    refine ⟨_, _, _, rfl, F₉, kt9, ?_, ⟨v7, by simp, ?_⟩, kl7 _ q9⟩
    · intro y hy
      simp only [List.mem_cons, List.not_mem_nil, or_false, not_or] at hy
      simp only [pick, hy, if_false]
    · have e9 : fs.getD n.toNat [] = qs := by rw [List.getD_eq_getElem?_getD, efs]; rfl
      rw [List.take_add_one, hgn, Option.toList_some, joinE_snoc, e9, ← List.append_assoc]
      exact kp7 _ q9
/-- blocks with their ends -/
def EndsAt (h : Heap) (bvs : List Value) (cs : List Nat) (ggs : List (List Int)) : Prop := bvs.length = cs.length ∧ cs.length ≤ 4 ∧ (∀ c ∈ cs, c ≤ 3) ∧ ∀ (i : Nat) (v : Value), bvs[i]? = some v → ∃ bk sl tm dv svs gs, v = .ref bk ∧ h.IsList bk [.ref sl, .ref tm].toArray ∧ h.IsList sl (List.toArray svs) ∧ cs[i]? = some svs.length ∧ TermAt h (.ref tm) dv gs ∧ ggs[i]? = some gs ∧ ∀ g ∈ gs, 0 ≤ g ∧ g < cs.length
theorem EndsAt.mono {h h' : Heap} (k : ∀ b o, h.get? b = some o → h'.get? b = some o) {bvs : List Value} {cs : List Nat} {ggs} (x : EndsAt h bvs cs ggs) : EndsAt h' bvs cs ggs :=
  ⟨x.1, x.2.1, x.2.2.1, fun i v e => let ⟨bk, sl, tv, dv, svs, gs, a, b, c, d, f, q⟩ := x.2.2.2 i v e; ⟨bk, sl, tv, dv, svs, gs, a, b.at (k _), c.at (k _), d, f.mono k, q⟩⟩
/-- points of a block from the last one back -/
def dpts (b n t : Nat) : List (Int × Int) := (List.range t).map fun (u : Nat) => ((b : Int), (n : Int) - (u : Int))
def bfB (b : Nat) (ps : List (Int × Int)) (n t : Nat) : List ((Int × Int) × List (Int × Int)) := (List.range t).map fun (u : Nat) => (((b : Int), (n : Int) - (u : Int)), ps ++ dpts b n (u + 1))
def bfR (ps : List (Int × Int)) (cs : List Nat) (ggs : List (List Int)) (fs : List (List (Int × Int))) (b : Nat) : List ((Int × Int) × List (Int × Int)) := bfB b (ps ++ joinE fs (uniq (ggs.getD b []))) (cs.getD b 0) (cs.getD b 0 + 1)
def bfE (ps : List (Int × Int)) (cs : List Nat) (ggs : List (List Int)) (fs : List (List (Int × Int))) (k : Nat) : List ((Int × Int) × List (Int × Int)) := (List.range k).flatMap (bfR ps cs ggs fs)
theorem dpts_succ (b n t : Nat) : dpts b n (t + 1) = dpts b n t ++ [((b : Int), (n : Int) - (t : Int))] := by simp [dpts, List.range_succ]
theorem dpts_len (b n t : Nat) : (dpts b n t).length = t := by simp [dpts]
theorem bfB_succ (b : Nat) (ps) (n t : Nat) : bfB b ps n (t + 1) = bfB b ps n t ++ [(((b : Int), (n : Int) - (t : Int)), ps ++ dpts b n (t + 1))] := by simp [bfB, List.range_succ]
theorem bfB_len (b ps n t) : (bfB b ps n t).length = t := by simp [bfB]
theorem bfE_succ (ps cs ggs fs k) : bfE ps cs ggs fs (k + 1) = bfE ps cs ggs fs k ++ bfR ps cs ggs fs k := by simp [bfE, List.range_succ]
theorem bfB_keys {b : Nat} {ps} {n t : Nat} {p : Int × Int} (h : p ∈ (bfB b ps n t).map Prod.fst) : p.1 = b ∧ (n : Int) - t < p.2 := by
  simp only [bfB, List.map_map, List.mem_map, List.mem_range] at h
  obtain ⟨i, hi, rfl⟩ := h
  refine ⟨rfl, ?_⟩
  show (n : Int) - t < (n : Int) - i
  omega
theorem bfE_keys {ps cs ggs fs} {k : Nat} {p : Int × Int} (h : p ∈ (bfE ps cs ggs fs k).map Prod.fst) : p.1 < k := by
  simp only [bfE, List.map_flatMap, List.mem_flatMap, List.mem_range] at h
  obtain ⟨b, hb, h⟩ := h
  have := (bfB_keys h).1; omega
theorem bfE_fresh {ps cs ggs fs} {k n t : Nat} {qs} : ((k : Int), (n : Int) - (t : Int)) ∉ (bfE ps cs ggs fs k ++ bfB k qs n t).map Prod.fst := by
  rw [List.map_append, List.mem_append]
  rintro (h | h)
  · have := bfE_keys h; simp at this
  · have := (bfB_keys h).2
    have h2 : (n : Int) - t < (n : Int) - t := this
    omega
theorem bfE_len {ps} {cs : List Nat} {ggs fs} (hc : ∀ c ∈ cs, c ≤ 3) : ∀ k, (bfE ps cs ggs fs k).length ≤ 4 * k
  | 0 => by simp [bfE]
  | k + 1 => by
    rw [bfE_succ, List.length_append]
    have h1 := bfE_len (ps := ps) (ggs := ggs) (fs := fs) hc k
    have h2 : cs.getD k 0 ≤ 3 := by
      rw [List.getD_eq_getElem?_getD]
      cases e : cs[k]? with
      | none => simp
      | some c => exact hc c (List.mem_of_getElem? e)
    unfold bfR
    rw [bfB_len]; omega
theorem small_down {n : Nat} (h : n ≤ 10) : Builtin.Range.small (n : Int) (-1) (-1) = true := (show ∀ k, k < 11 → Builtin.Range.small ((k : Nat) : Int) (-1) (-1) = true by decide) n (by omega)
theorem size_down {n : Nat} (h : n ≤ 10) : Builtin.Range.rangeSize (n : Int) (-1) (-1) = ((n + 1 : Nat) : Int) := (show ∀ k, k < 11 → Builtin.Range.rangeSize ((k : Nat) : Int) (-1) (-1) = ((k + 1 : Nat) : Int) by decide) n (by omega)
section
variable {w : World} {mean : ExcName → Option Value} {mg mb : Str → Option Value} {g : Heap} {L : Addr} {m : Str → Option Value} {news : List (Addr × Obj)} {s : Shared} {dp un : Nat} {gd : Option (List Code)} {fr : Option (List Env)} {Q E : Value → Shared → Prop}
theorem behind_use {body bl fl bk sl tm : Addr} {bvs fvs : List Value} {fs : List (List (Int × Int))} {i : Int} {ti : Tok} {dv ev : Value} {gs : List Int} {ps : List (Int × Int)} (F : Fr g L s.heap m) (X : (Mine.hd.heap_1 w.params).In g) (T : Top Mine.vw (looseW Mine.vw []) mean mg mb g) (N : News g L s.heap news)
    (hd : dp + 2 < recursionLimit) (hu : un + 110 < cLine)
    (hB : BodyAt g body bl) (hbl : g.IsList bl bvs.toArray) (hi0 : 0 ≤ i) (hi4 : i < 4) (hbv : bvs[i.toNat]? = some (.ref bk)) (hbk : g.IsList bk [.ref sl, .ref tm].toArray) (ht : TermAt g (.ref tm) dv gs) (hg : ∀ g ∈ gs, 0 ≤ g ∧ g < fs.length)
    (hfl : g.IsList fl fvs.toArray) (hF : FullAt g fvs fs) (hf4 : fs.length ≤ 4) (hev : PairsAt g ev ps) (hps : ps.length ≤ 10)
    (ret : ∀ v h' tk', (∀ b o, s.heap.get? b = some o → h'.get? b = some o) → Fr g L h' m → News g L h' news → PairsAt h' v (ps ++ joinE fs (uniq gs)) → Q v { s with heap := h', toks := tk' }) :
    wpAny (model PySem.Challenge.pw_xm0585_01 w) (arnd dp un gd fr) (call (.ref 105) [.ref body, .ref fl, .int i ti, ev, .ref 201]) Q E s :=
  behind_ok X T F.keep hd hu (hB.mono F.keep) (F.lst hbl) hi0 hi4 hbv (F.lst hbk) (ht.mono F.keep) hg (F.lst hfl) (hF.mono F.keep) hf4 (hev.mono F.keep) hps fun v h' tk' k hv => ret v h' tk' k ⟨F.ns.keeps k, fun b o e => k b o (F.keep b o e), F.above⟩ (N.keeps k) hv
end
set_option maxRecDepth 100000 in
set_option maxHeartbeats 2000000 in
theorem facts_before_ok {w : World} {mean : ExcName → Option Value} {mg mb : Str → Option Value} {h₀ : Heap} {s : Shared} {dp un : Nat} {gd : Option (List Code)} {fr : Option (List Env)} {body bl fl : Addr} {bvs fvs : List Value} {cs : List Nat} {ggs : List (List Int)} {fs : List (List (Int × Int))} {ev : Value} {ps : List (Int × Int)} {Q E : Value → Shared → Prop}
    (X : (Mine.hd.heap_1 w.params).In h₀) (T : Top Mine.vw (looseW Mine.vw []) mean mg mb h₀) (st0 : h₀.StaysIn s.heap)
    (hd : dp + 3 < recursionLimit) (hu : un + 120 < cLine)
    (hB : BodyAt s.heap body bl) (hbl : s.heap.IsList bl bvs.toArray) (hL : EndsAt s.heap bvs cs ggs) (hfl : s.heap.IsList fl fvs.toArray) (hF : FullAt s.heap fvs fs) (hlen : cs.length = fs.length) (hev : PairsAt s.heap ev ps) (hps : ps.length ≤ 10)
    (hQ : ∀ r h' tk', s.heap.get? r = none → s.heap.StaysIn h' → DAt PySem.Challenge.pw_xm0585_01 w h' r (bfE ps cs ggs fs cs.length) → Q (.ref r) { s with heap := h', toks := tk' }) :
    wpAny (model PySem.Challenge.pw_xm0585_01 w) (arnd dp un gd fr) (call (.ref 112) [.ref body, .ref fl, ev, .ref 194, .ref 201]) Q E s := by
  refine' enter (news := []) X T st0 (fun _ h => nomatch h) (fun _ h => nomatch h) ?ho ?hcd ?hroom ?hbind ?hloc ?_ ?c2 ?c3 ?c4 ?c5
  ((case ho => k_dflt k_is); (case hcd => k_dflt k_is); (case hroom => ktr_room); (case hbind => exact BindsTo.of_eq rfl); (case c2 => decide); (case c3 => exact rfl); (case c4 => exact rfl); (case c5 => exact rfl); (case hloc => exact locs rfl))
  intro g L' h₁' st1 st2 keep F' N' X' T' nL l1 d' u' fr' hd' hu'
  change Fr _ _ _ (fun y => List.lookup y [(_, _), (_, _), (_, _), (_, _), (_, _)]) at F'
  have k : ∀ b o, s.heap.get? b = some o → g.get? b = some o := fun b o e => keep b o e (fun h => nomatch h)
  replace hB := hB.mono k; replace hbl := hbl.at (k bl); replace hL := hL.mono k; replace hfl := hfl.at (k fl); replace hF := hF.mono k; replace hev := hev.mono k
  clear l1
  have hB' := hB
  refine hide (fun P9 toP9 => ?_)
  obtain ⟨dx, k1, k2, k3, k4, k5, t1, t2, t3, t4, t5, v1, v2, v3, v5, nb, hb1, hb2⟩ := hB
  (refine toP9 ?_; clear toP9 P9)
  (try dsimp only)
  have hbz : bvs.length ≤ 4 := by rw [hL.1]; exact hL.2.1
  (repeat' ((fail_if_success (with_reducible refine stop_at (by first | (constructor; done) | exact .call (by decide)) ?_)); first | (k_unfold; (try dsimp only)) | (k_end; wrow_close) | ((first | ((with_reducible show wpAny _ _ (subscriptTail _ _ (Value.ref _) (Value.int _ _)) _ _ _); first | (refine item_tupleT (Fr.tup (by k_asm) (by assumption)) (by decide) (by decide) (by rfl) (by rfl) ?_; k_whole) | ((with_reducible show wpAny _ _ (subscriptTail _ _ (Value.ref _) (Value.int 0 _)) _ _ _); refine itemT_head (by k_asm) (by assumption) ?_; k_whole) | (refine itemL_at (by k_asm) (by assumption) (by first | assumption | rfl) (by ktr_units) (by ktr_units) ?_; k_whole)) | ((with_reducible show wpAny _ _ (call (Value.builtin "len") [Value.ref _]) _ _ _); refine PyProof.Rows.len_list (Fr.lst (by k_asm) (by assumption)) (by ktr_units) ?_; k_whole) | ((with_reducible show wpAny _ _ (spliced _) _ _ _); refine' args_plain ?qSS ?qFF ?qkk ?qPP ?_; (case qSS => rfl); (case qFF => k_asm); (case qkk => rfl); (case qPP => repeat' first | exact Plain.nil | (apply Plain.name; exact rfl; exact rfl; decide) | apply Plain.none | apply Plain.bool | apply Plain.int | apply Plain.str); k_whole; (try dsimp only [List.cons_append, List.nil_append])) | walk1) <;> first | (with_reducible show wpAny _ _ (subscriptTail _ (PySem.Expr.Slice _ _ _ _) _ _) _ _ _) | (try dsimp only)) | (dsimp only; walk1) | (leave1; try dsimp only) | fail "no step"))
  refine wpAny_For ?_ (by intro _; rfl)
  (repeat' ((fail_if_success (with_reducible refine stop_at (by first | (constructor; done) | exact .call (by decide)) ?_)); first | (k_unfold; (try dsimp only)) | (k_end; wrow_close) | ((first | ((with_reducible show wpAny _ _ (subscriptTail _ _ (Value.ref _) (Value.int _ _)) _ _ _); first | (refine item_tupleT (Fr.tup (by k_asm) (by assumption)) (by decide) (by decide) (by rfl) (by rfl) ?_; k_whole) | ((with_reducible show wpAny _ _ (subscriptTail _ _ (Value.ref _) (Value.int 0 _)) _ _ _); refine itemT_head (by k_asm) (by assumption) ?_; k_whole) | (refine itemL_at (by k_asm) (by assumption) (by first | assumption | rfl) (by ktr_units) (by ktr_units) ?_; k_whole)) | ((with_reducible show wpAny _ _ (call (Value.builtin "len") [Value.ref _]) _ _ _); refine PyProof.Rows.len_list (Fr.lst (by k_asm) (by assumption)) (by ktr_units) ?_; k_whole) | ((with_reducible show wpAny _ _ (spliced _) _ _ _); refine' args_plain ?qSS ?qFF ?qkk ?qPP ?_; (case qSS => rfl); (case qFF => k_asm); (case qkk => rfl); (case qPP => repeat' first | exact Plain.nil | (apply Plain.name; exact rfl; exact rfl; decide) | apply Plain.none | apply Plain.bool | apply Plain.int | apply Plain.str); k_whole; (try dsimp only [List.cons_append, List.nil_append])) | walk1) <;> first | (with_reducible show wpAny _ _ (subscriptTail _ (PySem.Expr.Slice _ _ _ _) _ _) _ _ _) | (try dsimp only)) | (dsimp only; walk1) | (leave1; try dsimp only) | fail "no step"))
  rename IsRange _ _ _ _ _ _ _ _ => hR; rename Fr _ _ _ _ => F₀; rename News _ _ _ _ => N₀; rename (_ == sysModules) = false => hds; rename Obj.IsDictOf (intKind _ _) _ _ => hD0
  refine hide (fun P9 toP9 => ?_)
  obtain ⟨dat0, hdL, hdg⟩ := dat_of N₀ hds hD0
  (refine toP9 ?_; clear toP9 P9)
  clear hds hD0
  refine range_H (n := bvs.length) (fun b m h => AgreeOff [Str.ofString "here", Str.ofString "block", Str.ofString "index"] _ m ∧ DAt PySem.Challenge.pw_xm0585_01 w h _ (bfE ps cs ggs fs b)) rfl hR ?sm ?sz rfl rfl F₀ ⟨.refl, dat0⟩ ?stab ?step ?done
  case sm => exact small_to (n := bvs.length) (by omega)
  case sz => exact size_to _
  case stab => exact fun b m h h' F hJ ko => ⟨hJ.1, dat_keeps F hdL (fun a o e ha hf => ko a o e ha (.inl hf)) hJ.2⟩
  case done =>
    intro m' h' tk' hJ F'
    rw [AgreeOff.form hJ.1] at F'
    have hD := hJ.2
    clear F₀ N₀ hJ
    (try dsimp only)
    refine hide (fun P9 toP9 => ?_)
    obtain ⟨D1, N1, -, hD1⟩ := refresh F' News.nil
    (refine toP9 ?_; clear toP9 P9)
    have kf : ∀ h2 m2 news2, Fr g L' h2 m2 → News g L' h2 news2 → (∀ p ∈ D1, p ∈ news2) → DAt PySem.Challenge.pw_xm0585_01 w h2 _ (bfE ps cs ggs fs bvs.length) := fun _ _ _ a b c => dat_keeps F' hdL (fun x o e hx _ => keepAll_of hD1 a b c x o e hx) hD
    clear hD1
    (repeat' (first | (k_unfold; (try dsimp only)) | (k_end; wrow_close) | ((first | ((with_reducible show wpAny _ _ (subscriptTail _ _ (Value.ref _) (Value.int _ _)) _ _ _); first | (refine item_tupleT (Fr.tup (by k_asm) (by assumption)) (by decide) (by decide) (by rfl) (by rfl) ?_; k_whole) | ((with_reducible show wpAny _ _ (subscriptTail _ _ (Value.ref _) (Value.int 0 _)) _ _ _); refine itemT_head (by k_asm) (by assumption) ?_; k_whole) | (refine itemL_at (by k_asm) (by assumption) (by first | assumption | rfl) (by ktr_units) (by ktr_units) ?_; k_whole)) | ((with_reducible show wpAny _ _ (call (Value.builtin "len") [Value.ref _]) _ _ _); refine PyProof.Rows.len_list (Fr.lst (by k_asm) (by assumption)) (by ktr_units) ?_; k_whole) | ((with_reducible show wpAny _ _ (spliced _) _ _ _); refine' args_plain ?qSS ?qFF ?qkk ?qPP ?_; (case qSS => rfl); (case qFF => k_asm); (case qkk => rfl); (case qPP => repeat' first | exact Plain.nil | (apply Plain.name; exact rfl; exact rfl; decide) | apply Plain.none | apply Plain.bool | apply Plain.int | apply Plain.str); k_whole; (try dsimp only [List.cons_append, List.nil_append])) | walk1) <;> first | (with_reducible show wpAny _ _ (subscriptTail _ (PySem.Expr.Slice _ _ _ _) _ _) _ _ _) | (try dsimp only)) | (dsimp only; walk1) | (leave1; try dsimp only) | fail "no step"))
    (try dsimp only)
    rename Fr _ _ _ _ => F; rename News _ _ _ _ => N
    exact hQ _ _ _ (none_of k hdg) (fun b o e => F.keep b o (k b o e)) (hL.1 ▸ kf _ _ _ F N (fun _ h => h))
  case step =>
    intro i t' m₁ h tk hi hJ F₁
    refine hide (fun P9 toP9 => ?_)
    rw [show (0 + (i : Int) * 1) = (i : Int) by omega] at F₁
    rw [AgreeOff.form hJ.1] at F₁
    obtain ⟨bv, hbv⟩ : ∃ v, bvs[i]? = some v := ⟨bvs[i], List.getElem?_eq_getElem hi⟩
    obtain ⟨bk, sl, tm, dv, svs, gs, rfl, e1, e2, e3, e4, e5, e6⟩ := hL.2.2.2 i _ hbv
    have hsz : svs.length ≤ 3 := hL.2.2.1 _ (List.mem_of_getElem? e3)
    have hbv' : bvs[(i : Int).toNat]? = some (.ref bk) := by simpa using hbv
    have hD := hJ.2
    obtain ⟨D, N, -, hD1⟩ := refresh F₁ News.nil
    have kk : ∀ h' m' news', Fr g L' h' m' → News g L' h' news' → (∀ p ∈ D, p ∈ news') → ∀ b o, h.get? b = some o → b ≠ L' → h'.get? b = some o := fun _ _ _ a b c => keepAll_of hD1 a b c
    have ki := fun h' => keepIt_all (h' := h') F₁
    have kd := fun h' (q : ∀ b o, h.get? b = some o → b ≠ L' → h'.get? b = some o) => dat_keeps (h' := h') F₁ hdL (fun x o e hx _ => q x o e hx) hD
    have nf := ns_fields F₁
    clear hD1 F₀ N₀ hJ hbv
    (refine toP9 ?_; clear toP9 P9)
    (try dsimp only)
    (repeat' ((fail_if_success (with_reducible refine stop_at (by first | (constructor; done) | exact .call (by decide)) ?_)); first | (k_unfold; (try dsimp only)) | (k_end; wrow_close) | ((first | ((with_reducible show wpAny _ _ (subscriptTail _ _ (Value.ref _) (Value.int _ _)) _ _ _); first | (refine item_tupleT (Fr.tup (by k_asm) (by assumption)) (by decide) (by decide) (by rfl) (by rfl) ?_; k_whole) | ((with_reducible show wpAny _ _ (subscriptTail _ _ (Value.ref _) (Value.int 0 _)) _ _ _); refine itemT_head (by k_asm) (by assumption) ?_; k_whole) | (refine itemL_at (by k_asm) (by assumption) (by first | assumption | rfl) (by ktr_units) (by ktr_units) ?_; k_whole)) | ((with_reducible show wpAny _ _ (call (Value.builtin "len") [Value.ref _]) _ _ _); refine PyProof.Rows.len_list (Fr.lst (by k_asm) (by assumption)) (by ktr_units) ?_; k_whole) | ((with_reducible show wpAny _ _ (spliced _) _ _ _); refine' args_plain ?qSS ?qFF ?qkk ?qPP ?_; (case qSS => rfl); (case qFF => k_asm); (case qkk => rfl); (case qPP => repeat' first | exact Plain.nil | (apply Plain.name; exact rfl; exact rfl; decide) | apply Plain.none | apply Plain.bool | apply Plain.int | apply Plain.str); k_whole; (try dsimp only [List.cons_append, List.nil_append])) | walk1) <;> first | (with_reducible show wpAny _ _ (subscriptTail _ (PySem.Expr.Slice _ _ _ _) _ _) _ _ _) | (try dsimp only)) | (dsimp only; walk1) | (leave1; try dsimp only) | fail "no step"))
    rename Fr _ _ _ _ => F₂; rename News _ _ _ _ => N₂
    have q₂ := kk _ _ _ F₂ N₂ (fun _ h => h)
    have hc4 := hL.2.1
    refine behind_use F₂ X' T' N₂ (by ktr_room) (by ktr_room) hB' hbl (by omega) (by omega) hbv' e1 e4 (hlen ▸ e6) hfl hF (by omega) hev hps ?_
    intro v4 h4 tk4 st4 F₄ N₄ hv4
    refine hide (fun P9 toP9 => ?_)
    have q4 : ∀ b o, h.get? b = some o → b ≠ L' → h4.get? b = some o := fun b o e hb => st4 b o (q₂ b o e hb)
    have hD4 := kd _ q4
    have kt4 := ki _ q4
    obtain ⟨D5, N5, -, hD5⟩ := refresh F₄ News.nil
    have kk5 : ∀ h' m' news', Fr g L' h' m' → News g L' h' news' → (∀ p ∈ D5, p ∈ news') → ∀ b o, h4.get? b = some o → b ≠ L' → h'.get? b = some o := fun _ _ _ a b c => keepAll_of hD5 a b c
    have ki5 := fun h' => keepIt_all (h' := h') F₄
    have kd5 := fun h' (q : ∀ b o, h4.get? b = some o → b ≠ L' → h'.get? b = some o) => dat_keeps (h' := h') F₄ hdL (fun x o e hx _ => q x o e hx) hD4
    have kp5 := fun h' (q : ∀ b o, h4.get? b = some o → b ≠ L' → h'.get? b = some o) => pairs_keeps (h' := h') F₄ (fun x o e hx _ => q x o e hx) hv4
    have hbl4 : (ps ++ joinE fs (uniq gs)).length ≤ 20 := by
      have h1 := joinE_len hF.2.1 (uniq gs)
      have h2 := uniq_len gs
      have h3 := e4.len
      rw [List.length_append]; omega
    (try clear hD5); (try clear F₂); (try clear N₂); (try clear N₄); (try clear F₁); (try clear N)
    (refine toP9 ?_; clear toP9 P9)
    (try dsimp only)
    (repeat' ((fail_if_success (with_reducible refine stop_at (by first | (constructor; done) | exact .call (by decide)) ?_)); first | (k_unfold; (try dsimp only)) | (k_end; wrow_close) | ((first | ((with_reducible show wpAny _ _ (subscriptTail _ _ (Value.ref _) (Value.int _ _)) _ _ _); first | (refine item_tupleT (Fr.tup (by k_asm) (by assumption)) (by decide) (by decide) (by rfl) (by rfl) ?_; k_whole) | ((with_reducible show wpAny _ _ (subscriptTail _ _ (Value.ref _) (Value.int 0 _)) _ _ _); refine itemT_head (by k_asm) (by assumption) ?_; k_whole) | (refine itemL_at (by k_asm) (by assumption) (by first | assumption | rfl) (by ktr_units) (by ktr_units) ?_; k_whole)) | ((with_reducible show wpAny _ _ (call (Value.builtin "len") [Value.ref _]) _ _ _); refine PyProof.Rows.len_list (Fr.lst (by k_asm) (by assumption)) (by ktr_units) ?_; k_whole) | ((with_reducible show wpAny _ _ (spliced _) _ _ _); refine' args_plain ?qSS ?qFF ?qkk ?qPP ?_; (case qSS => rfl); (case qFF => k_asm); (case qkk => rfl); (case qPP => repeat' first | exact Plain.nil | (apply Plain.name; exact rfl; exact rfl; decide) | apply Plain.none | apply Plain.bool | apply Plain.int | apply Plain.str); k_whole; (try dsimp only [List.cons_append, List.nil_append])) | walk1) <;> first | (with_reducible show wpAny _ _ (subscriptTail _ (PySem.Expr.Slice _ _ _ _) _ _) _ _ _) | (try dsimp only)) | (dsimp only; walk1) | (leave1; try dsimp only) | fail "no step"))
    refine wpAny_For ?_ (by intro _; rfl)
    (repeat' ((fail_if_success (with_reducible refine stop_at (by first | (constructor; done) | exact .call (by decide)) ?_)); first | (k_unfold; (try dsimp only)) | (k_end; wrow_close) | ((first | ((with_reducible show wpAny _ _ (subscriptTail _ _ (Value.ref _) (Value.int _ _)) _ _ _); first | (refine item_tupleT (Fr.tup (by k_asm) (by assumption)) (by decide) (by decide) (by rfl) (by rfl) ?_; k_whole) | ((with_reducible show wpAny _ _ (subscriptTail _ _ (Value.ref _) (Value.int 0 _)) _ _ _); refine itemT_head (by k_asm) (by assumption) ?_; k_whole) | (refine itemL_at (by k_asm) (by assumption) (by first | assumption | rfl) (by ktr_units) (by ktr_units) ?_; k_whole)) | ((with_reducible show wpAny _ _ (call (Value.builtin "len") [Value.ref _]) _ _ _); refine PyProof.Rows.len_list (Fr.lst (by k_asm) (by assumption)) (by ktr_units) ?_; k_whole) | ((with_reducible show wpAny _ _ (spliced _) _ _ _); refine' args_plain ?qSS ?qFF ?qkk ?qPP ?_; (case qSS => rfl); (case qFF => k_asm); (case qkk => rfl); (case qPP => repeat' first | exact Plain.nil | (apply Plain.name; exact rfl; exact rfl; decide) | apply Plain.none | apply Plain.bool | apply Plain.int | apply Plain.str); k_whole; (try dsimp only [List.cons_append, List.nil_append])) | walk1) <;> first | (with_reducible show wpAny _ _ (subscriptTail _ (PySem.Expr.Slice _ _ _ _) _ _) _ _ _) | (try dsimp only)) | (dsimp only; walk1) | (leave1; try dsimp only) | fail "no step"))
    rename IsRange _ _ _ _ _ _ _ _ => hR2; rename Fr _ _ _ _ => F₆; rename News _ _ _ _ => N₆
    have q6 := kk5 _ _ _ F₆ N₆ (fun _ h => h)
    have kt6 := kt4.trans (ki5 _ q6)
    have hD6 := kd5 _ q6
    refine range_H (n := svs.length + 1) (fun j m h2 => AgreeOff [Str.ofString "here", Str.ofString "index"] _ m ∧ (∃ v', m (Str.ofString "here") = some v' ∧ PairsAt h2 v' ((ps ++ joinE fs (uniq gs)) ++ dpts i svs.length j)) ∧ DAt PySem.Challenge.pw_xm0585_01 w h2 _ (bfE ps cs ggs fs i ++ bfB i (ps ++ joinE fs (uniq gs)) svs.length j) ∧ KeepIt h h2) rfl hR2 ?sm2 ?sz2 rfl rfl F₆
        ⟨.refl, ⟨_, rfl, by simpa [dpts] using kp5 _ q6⟩, by simpa [bfB] using hD6, kt6⟩ ?stab2 ?step2 ?done2
    case sm2 => exact small_down (n := svs.length) (by omega)
    case sz2 => exact size_down (n := svs.length) (by omega)
    case stab2 => exact fun j m h h' F hJ ko => ⟨hJ.1, let ⟨v', a, b⟩ := hJ.2.1; ⟨v', a, pairs_keeps F (fun x o e hx hf => ko x o e hx (.inl hf)) b⟩, dat_keeps F hdL (fun a o e ha hf => ko a o e ha (.inl hf)) hJ.2.2.1, hJ.2.2.2.stab kt6 nf ko⟩
    case done2 =>
      intro m' h' tk' hJ' F'
      have F9 := F'
      rw [AgreeOff.form hJ'.1] at F9
      clear F'
      (try dsimp only)
      (repeat' ((fail_if_success (with_reducible refine stop_at (by first | (constructor; done) | exact .call (by decide)) ?_)); first | (k_unfold; (try dsimp only)) | (k_end; wrow_close) | ((first | ((with_reducible show wpAny _ _ (subscriptTail _ _ (Value.ref _) (Value.int _ _)) _ _ _); first | (refine item_tupleT (Fr.tup (by k_asm) (by assumption)) (by decide) (by decide) (by rfl) (by rfl) ?_; k_whole) | ((with_reducible show wpAny _ _ (subscriptTail _ _ (Value.ref _) (Value.int 0 _)) _ _ _); refine itemT_head (by k_asm) (by assumption) ?_; k_whole) | (refine itemL_at (by k_asm) (by assumption) (by first | assumption | rfl) (by ktr_units) (by ktr_units) ?_; k_whole)) | ((with_reducible show wpAny _ _ (call (Value.builtin "len") [Value.ref _]) _ _ _); refine PyProof.Rows.len_list (Fr.lst (by k_asm) (by assumption)) (by ktr_units) ?_; k_whole) | ((with_reducible show wpAny _ _ (spliced _) _ _ _); refine' args_plain ?qSS ?qFF ?qkk ?qPP ?_; (case qSS => rfl); (case qFF => k_asm); (case qkk => rfl); (case qPP => repeat' first | exact Plain.nil | (apply Plain.name; exact rfl; exact rfl; decide) | apply Plain.none | apply Plain.bool | apply Plain.int | apply Plain.str); k_whole; (try dsimp only [List.cons_append, List.nil_append])) | walk1) <;> first | (with_reducible show wpAny _ _ (subscriptTail _ (PySem.Expr.Slice _ _ _ _) _ _) _ _ _) | (try dsimp only)) | (dsimp only; walk1) | (leave1; try dsimp only) | fail "no step"))
      (try dsimp only)
      refine ⟨_, _, _, rfl, F9, hJ'.2.2.2, ?_, ?_⟩
      · intro y hy
        simp only [List.mem_cons, List.not_mem_nil, or_false, not_or] at hy
        simp only [pick, hy, if_false]
      · have e9 : cs.getD i 0 = svs.length := by rw [List.getD_eq_getElem?_getD, e3]; rfl
        have e8 : ggs.getD i [] = gs := by rw [List.getD_eq_getElem?_getD, e5]; rfl
        rw [bfE_succ, bfR, e9, e8]
        exact hJ'.2.2.1
    case step2 =>
      intro j tj m₂ h2 tk2 hj hJ2 F₃
      refine hide (fun P9 toP9 => ?_)
      rw [show (((List.toArray svs).size : Int) + (j : Int) * -1) = (svs.length : Int) - (j : Int) by simp only [List.size_toArray]; omega] at F₃
      obtain ⟨ha, ⟨v', hm, hp'⟩, hD3, kt2⟩ := hJ2
      rw [AgreeOff.form1 ha hm] at F₃
      obtain ⟨D3, N3, -, hDD⟩ := refresh F₃ News.nil
      have kk3 : ∀ h' m' news', Fr g L' h' m' → News g L' h' news' → (∀ p ∈ D3, p ∈ news') → ∀ b o, h2.get? b = some o → b ≠ L' → h'.get? b = some o := fun _ _ _ a b c => keepAll_of hDD a b c
      have ki3 := fun h' => keepIt_all (h' := h') F₃
      have kd3 := fun h' (q : ∀ b o, h2.get? b = some o → b ≠ L' → h'.get? b = some o) => dat_keeps (h' := h') F₃ hdL (fun x o e hx _ => q x o e hx) hD3
      have kp3 := fun h' (q : ∀ b o, h2.get? b = some o → b ≠ L' → h'.get? b = some o) => pairs_keeps (h' := h') F₃ (fun x o e hx _ => q x o e hx) hp'
      have hl5 : ((ps ++ joinE fs (uniq gs)) ++ dpts i svs.length j).length < 1000 := by
        rw [List.length_append, dpts_len]; omega
      clear hDD F₆ N₆ hR2 hR q6 q4 q₂
      (refine toP9 ?_; clear toP9 P9)
      (try dsimp only)
      (repeat' ((fail_if_success (with_reducible refine stop_at (by first | (constructor; done) | exact .call (by decide)) ?_)); first | (k_unfold; (try dsimp only)) | (k_end; wrow_close) | ((first | ((with_reducible show wpAny _ _ (subscriptTail _ _ (Value.ref _) (Value.int _ _)) _ _ _); first | (refine item_tupleT (Fr.tup (by k_asm) (by assumption)) (by decide) (by decide) (by rfl) (by rfl) ?_; k_whole) | ((with_reducible show wpAny _ _ (subscriptTail _ _ (Value.ref _) (Value.int 0 _)) _ _ _); refine itemT_head (by k_asm) (by assumption) ?_; k_whole) | (refine itemL_at (by k_asm) (by assumption) (by first | assumption | rfl) (by ktr_units) (by ktr_units) ?_; k_whole)) | ((with_reducible show wpAny _ _ (call (Value.builtin "len") [Value.ref _]) _ _ _); refine PyProof.Rows.len_list (Fr.lst (by k_asm) (by assumption)) (by ktr_units) ?_; k_whole) | ((with_reducible show wpAny _ _ (spliced _) _ _ _); refine' args_plain ?qSS ?qFF ?qkk ?qPP ?_; (case qSS => rfl); (case qFF => k_asm); (case qkk => rfl); (case qPP => repeat' first | exact Plain.nil | (apply Plain.name; exact rfl; exact rfl; decide) | apply Plain.none | apply Plain.bool | apply Plain.int | apply Plain.str); k_whole; (try dsimp only [List.cons_append, List.nil_append])) | walk1) <;> first | (with_reducible show wpAny _ _ (subscriptTail _ (PySem.Expr.Slice _ _ _ _) _ _) _ _ _) | (try dsimp only)) | (dsimp only; walk1) | (leave1; try dsimp only) | fail "no step"))
      rename Fr _ _ _ _ => F₆; rename News _ _ _ _ => N₆
      have q6 := kk3 _ _ _ F₆ N₆ (fun _ h => h)
      refine step_use F₆ X' T' N₆ (kp3 _ q6) hl5 (by ktr_room) (by ktr_room) ?_
      intro v7 h7 tk7 st7 F₇ N₇ hv7
      refine hide (fun P9 toP9 => ?_)
      rw [List.append_assoc _ (dpts i svs.length j), ← dpts_succ] at hv7
      obtain ⟨D7, N8, -, hD77⟩ := refresh F₇ News.nil
      have q57 : ∀ b o, h2.get? b = some o → b ≠ L' → h7.get? b = some o := fun b o e hb => st7 b o (q6 b o e hb)
      have kt7 := ki3 _ q57
      have hD7 := kd3 _ q57
      have kk7 : ∀ h' m' news', Fr g L' h' m' → News g L' h' news' → (∀ p ∈ D7, p ∈ news') → ∀ b o, h7.get? b = some o → b ≠ L' → h'.get? b = some o := fun _ _ _ a b c => keepAll_of hD77 a b c
      have ki7 := fun h' => keepIt_all (h' := h') F₇
      have kd7 := fun h' (q : ∀ b o, h7.get? b = some o → b ≠ L' → h'.get? b = some o) => dat_keeps (h' := h') F₇ hdL (fun x o e hx _ => q x o e hx) hD7
      have kp7 := fun h' (q : ∀ b o, h7.get? b = some o → b ≠ L' → h'.get? b = some o) => pairs_keeps (h' := h') F₇ (fun x o e hx _ => q x o e hx) hv7
      (try clear hD77); (try clear F₆); (try clear N₆); (try clear F₃); (try clear N3); (try clear N₇); (try clear q6); (try clear q57)
      (refine toP9 ?_; clear toP9 P9)
      (try dsimp only)
      (repeat' ((fail_if_success (with_reducible refine stop_at (by first | (constructor; done) | exact .call (by decide)) ?_)); first | (k_unfold; (try dsimp only)) | (k_end; wrow_close) | ((first | ((with_reducible show wpAny _ _ (subscriptTail _ _ (Value.ref _) (Value.int _ _)) _ _ _); first | (refine item_tupleT (Fr.tup (by k_asm) (by assumption)) (by decide) (by decide) (by rfl) (by rfl) ?_; k_whole) | ((with_reducible show wpAny _ _ (subscriptTail _ _ (Value.ref _) (Value.int 0 _)) _ _ _); refine itemT_head (by k_asm) (by assumption) ?_; k_whole) | (refine itemL_at (by k_asm) (by assumption) (by first | assumption | rfl) (by ktr_units) (by ktr_units) ?_; k_whole)) | ((with_reducible show wpAny _ _ (call (Value.builtin "len") [Value.ref _]) _ _ _); refine PyProof.Rows.len_list (Fr.lst (by k_asm) (by assumption)) (by ktr_units) ?_; k_whole) | ((with_reducible show wpAny _ _ (spliced _) _ _ _); refine' args_plain ?qSS ?qFF ?qkk ?qPP ?_; (case qSS => rfl); (case qFF => k_asm); (case qkk => rfl); (case qPP => repeat' first | exact Plain.nil | (apply Plain.name; exact rfl; exact rfl; decide) | apply Plain.none | apply Plain.bool | apply Plain.int | apply Plain.str); k_whole; (try dsimp only [List.cons_append, List.nil_append])) | walk1) <;> first | (with_reducible show wpAny _ _ (subscriptTail _ (PySem.Expr.Slice _ _ _ _) _ _) _ _ _) | (try dsimp only)) | (dsimp only; walk1) | (leave1; try dsimp only) | fail "no step"))
      rename Fr _ _ _ _ => F₄; rename News _ _ _ _ => N₄
      have q4 := kk7 _ _ _ F₄ N₄ (fun p hp => .tail _ hp)
      have hl4 : (bfE ps cs ggs fs i ++ bfB i (ps ++ joinE fs (uniq gs)) svs.length j).length < 1000 := by
        have := bfE_len (ps := ps) (ggs := ggs) (fs := fs) hL.2.2.1 i
        rw [List.length_append, bfB_len]; omega
      have hD4 := kd7 _ q4
      refine dat_set (ps := (ps ++ joinE fs (uniq gs)) ++ dpts i svs.length (j + 1)) (by ktr_room) hD4 (N₄.isTup (.head _)) (kp7 _ q4) bfE_fresh hl4 ?_
      intro h5 tk5 hD5 hs5
      refine hide (fun P9 toP9 => ?_)
      have F₅ := F₄.change hs5 hdL hdg
      have hp5 := pairs_set hD4 hs5 (kp7 _ q4)
      have kt5 := kt7.trans ((ki7 _ q4).trans (keepIt_set hD4 hs5))
      obtain ⟨D5, N5, -, hD55⟩ := refresh F₅ News.nil
      have kk5 : ∀ h' m' news', Fr g L' h' m' → News g L' h' news' → (∀ p ∈ D5, p ∈ news') → ∀ b o, h5.get? b = some o → b ≠ L' → h'.get? b = some o := fun _ _ _ a b c => keepAll_of hD55 a b c
      have ki5 := fun h' => keepIt_all (h' := h') F₅
      have kp5 := fun h' (q : ∀ b o, h5.get? b = some o → b ≠ L' → h'.get? b = some o) => pairs_keeps (h' := h') F₅ (fun x o e hx _ => q x o e hx) hp5
      have kd5 := fun h' (q : ∀ b o, h5.get? b = some o → b ≠ L' → h'.get? b = some o) => dat_keeps (h' := h') F₅ hdL (fun x o e hx _ => q x o e hx) hD5
      (try clear hD55); (try clear F₄); (try clear N₄); (try clear F₇); (try clear q4); (try clear hD4); (try clear N8)
      (refine toP9 ?_; clear toP9 P9)
      (try dsimp only)
      (repeat' ((fail_if_success (with_reducible refine stop_at (by first | (constructor; done) | exact .call (by decide)) ?_)); first | (k_unfold; (try dsimp only)) | (k_end; wrow_close) | ((first | ((with_reducible show wpAny _ _ (subscriptTail _ _ (Value.ref _) (Value.int _ _)) _ _ _); first | (refine item_tupleT (Fr.tup (by k_asm) (by assumption)) (by decide) (by decide) (by rfl) (by rfl) ?_; k_whole) | ((with_reducible show wpAny _ _ (subscriptTail _ _ (Value.ref _) (Value.int 0 _)) _ _ _); refine itemT_head (by k_asm) (by assumption) ?_; k_whole) | (refine itemL_at (by k_asm) (by assumption) (by first | assumption | rfl) (by ktr_units) (by ktr_units) ?_; k_whole)) | ((with_reducible show wpAny _ _ (call (Value.builtin "len") [Value.ref _]) _ _ _); refine PyProof.Rows.len_list (Fr.lst (by k_asm) (by assumption)) (by ktr_units) ?_; k_whole) | ((with_reducible show wpAny _ _ (spliced _) _ _ _); refine' args_plain ?qSS ?qFF ?qkk ?qPP ?_; (case qSS => rfl); (case qFF => k_asm); (case qkk => rfl); (case qPP => repeat' first | exact Plain.nil | (apply Plain.name; exact rfl; exact rfl; decide) | apply Plain.none | apply Plain.bool | apply Plain.int | apply Plain.str); k_whole; (try dsimp only [List.cons_append, List.nil_append])) | walk1) <;> first | (with_reducible show wpAny _ _ (subscriptTail _ (PySem.Expr.Slice _ _ _ _) _ _) _ _ _) | (try dsimp only)) | (dsimp only; walk1) | (leave1; try dsimp only) | fail "no step"))
      (try dsimp only)
      rename Fr _ _ _ _ => F₉; rename News _ _ _ _ => N₉
      have q9 := kk5 _ _ _ F₉ N₉ (fun _ h => h)
      have kt9 := kt5.trans (ki5 _ q9)
      refine ⟨_, _, _, rfl, F₉, kt9, ?_, ⟨v7, by simp, kp5 _ q9⟩, ?_, kt2.trans kt9⟩
      · intro y hy
        simp only [List.mem_cons, List.not_mem_nil, or_false, not_or] at hy
        simp only [pick, hy, if_false]
      · rw [bfB_succ, ← List.append_assoc]
        exact kd5 _ q9
section
variable {prog : Program} {w : World} {A : Around} {E : Value → Shared → Prop} {s : Shared} {env : Env} {g H₀ : Heap} {L : Addr} {m : Str → Option Value}
/-- one turn's draw, where the items may lie in what was made -/
structure NxtE (prog : Program) (w : World) (A : Around) (g : Heap) (I : Addr) (target : PySem.Expr) (cenv : Env) (wr : List Addr) (n : Nat) (St : Nat → Heap → Prop) (B : Nat → (Str → Option Value) → Prop) (Ex : Heap → Prop) : Prop where
  item : ∀ i (s : Shared) (K : Option Value → Sem PySem.Fin) (T : Sem PySem.Fin) (P : PySem.Fin → Shared → Prop) (E : Value → Shared → Prop) mC, i < n → St i s.heap → s.heap.Ns cenv.locals mC →
    (∀ v, K (some v) = (letOwnedTupleGo target (.ref I) v >>= fun _ => assign target cenv v >>= fun _ => T)) →
    (∀ h' tk mC', St (i + 1) h' → h'.Ns cenv.locals mC' → B i mC' → (∀ b o, s.heap.get? b = some o → b ≠ cenv.locals → b ∉ wr → h'.get? b = some o) → wpAny (model prog w) A T P E { s with heap := h', toks := tk }) →
    wpAny (model prog w) A (pyNext (.ref I) >>= K) P E s
  done : ∀ (s : Shared) (K : Option Value → Sem PySem.Fin) (P : PySem.Fin → Shared → Prop) (E : Value → Shared → Prop), St n s.heap →
    (∀ h' tk, (∀ b o, s.heap.get? b = some o → b ∉ wr → h'.get? b = some o) → wpAny (model prog w) A (K none) P E { s with heap := h', toks := tk }) →
    wpAny (model prog w) A (pyNext (.ref I) >>= K) P E s
  flds : ∀ i h, St i h → ∀ b ∈ wr, ∀ o, h.get? b = some o → isFields o = true
  hold : ∀ i h h', St i h → KeepIt h h' → (∀ b o, g.get? b = some o → h'.get? b = some o) → Ex h' → St i h'
  offB : ∀ b ∈ wr, g.get? b = none
  self : ∀ i (s : Shared) (Q : Value → Shared → Prop) (E : Value → Shared → Prop), St i s.heap → Q (.ref I) s → wpAny (model prog w) A (pyIter (.ref I)) Q E s
theorem Nxt.toE {I : Addr} {target : PySem.Expr} {cenv : Env} {wr : List Addr} {n : Nat} {St : Nat → Heap → Prop} {B : Nat → (Str → Option Value) → Prop} (W : Nxt prog w A g I target cenv wr n St B) : NxtE prog w A g I target cenv wr n St B (fun _ => True) where
  item := W.item
  done := W.done
  flds := W.flds
  hold := fun i h h' st k kg _ => W.hold i h h' st k kg
  offB := W.offB
  self := W.self
theorem codeAny_compG {R : Result → Shared → Prop} {elt target : PySem.Expr} {ifs : List PySem.Expr} {gens : List Comprehension} {d : Nat} {p : Pos} {scope : Scope} {pos : Pos} {I D : Addr} {wr : List Addr} {n : Nat} {St : Nat → Heap → Prop} {B : Nat → (Str → Option Value) → Prop} {Ex : Heap → Prop} {mC : Str → Option Value} {cenv : Env} (zs : List Value)
    (hturn : compTurn (.ListComp elt gens scope pos) d (.ref I) (.ref D) cenv = (do
      standAt p
      match ← pyNext (.ref I) with
      | none => pure (.done .next)
      | some v =>
        letOwnedTupleGo target (.ref I) v
        assign target cenv v
        let mut ok := true
        for c in ifs do
          if ok then ok ← isTrue c cenv (eval c cenv)
        if ok then
          (do let _ ← call (.builtin "list.append") [.ref D, ← eval elt cenv])
        again (.compLoop (.ListComp elt gens scope pos) d (.ref I) (.ref D) cenv)))
    (W : NxtE prog w A g I target cenv wr n St B Ex) (hDC : D ≠ cenv.locals) (hLC : L ≠ cenv.locals) (hLD : L ≠ D) (hC₀ : g.get? cenv.locals = none) (hD₀ : g.get? D = none) (hH : ∀ b ∈ wr, H₀.get? b = none)
    (hst : St 0 s.heap) (F : Fr g L s.heap m) (hC : s.heap.Ns cenv.locals mC) (hD : s.heap.get? D = some (LCg.lst zs)) (hn : zs.length + n ≤ sizeLine)
    (J : Nat → List Value → Heap → Prop) (j0 : J 0 zs s.heap) (hJE : ∀ i ys h, J i ys h → Ex h)
    (stab : ∀ i ys h h' mC, Fr g L h m → h.Ns cenv.locals mC → h.get? D = some (LCg.lst ys) → J i ys h → (∀ b o, h.get? b = some o → b ≠ L → b ≠ cenv.locals → b ≠ D → (isFields o = false ∨ H₀.get? b = some o) → h'.get? b = some o) → J i ys h')
    (stab2 : ∀ i ys x h h' mC, Fr g L h m → h.Ns cenv.locals mC → h.get? D = some (LCg.lst ys) → J i (ys ++ [x]) h → (∀ b o, h.get? b = some o → b ≠ D → h'.get? b = some o) → J i (ys ++ [x]) h')
    (step : ∀ i h tk ys mC, i < n → ys.length ≤ zs.length + i → B i mC → Fr g L h m → h.Ns cenv.locals mC → h.get? D = some (LCg.lst ys) → J i ys h →
      wpAny (model prog w) A (forIn ifs true fun c r => if r = true then do let ok ← isTrue c cenv (eval c cenv); pure (ForInStep.yield ok) else pure (ForInStep.yield r)) (fun ok s₃ =>
        if ok = true then wpAny (model prog w) A (eval elt cenv) (ElH g L m cenv.locals D h s ys (J (i + 1))) (notedBy (model prog w) A cenv fun e s' => R (.error e) s') s₃ else TsH g L m cenv.locals D h s ys (J (i + 1)) s₃)
        (notedBy (model prog w) A cenv fun e s' => R (.error e) s') { s with heap := h, toks := tk })
    (done : ∀ h tk ys mC, ys.length ≤ zs.length + n → Fr g L h m → h.Ns cenv.locals mC → h.get? D = some (LCg.lst ys) → J n ys h → R (.ok .next) { s with heap := h, toks := tk }) :
    codeAny (model prog w) A (.compLoop (.ListComp elt gens scope pos) d (.ref I) (.ref D) cenv) R s := by
  have hDf : isFields (LCg.lst []) = false := rfl
  have oldW : ∀ b o, g.get? b = some o → b ∉ wr := fun b o e hb => by rw [W.offB b hb] at e; cases e
  refine codeAny_loop rfl (fun k s' => ∃ h tk i ys mC, s' = { s with heap := h, toks := tk } ∧ i ≤ n ∧ k = n + 1 - i ∧ ys.length ≤ zs.length + i ∧ St i h ∧ Fr g L h m ∧ h.Ns cenv.locals mC ∧ h.get? D = some (LCg.lst ys) ∧ J i ys h) ?_ (n + 1)
    ⟨s.heap, s.toks, 0, zs, mC, rfl, Nat.zero_le _, rfl, Nat.le_refl _, hst, F, hC, hD, j0⟩
  rintro k s' ⟨h, tk, i, ys, mC, rfl, hi, rfl, hyl, hst', F', hC', hD', hJ⟩
  show wpAny _ A ((compTurn (.ListComp elt gens scope pos) d (.ref I) (.ref D) cenv).onRaise (fun x => do noteFrame x cenv; theTreesLotGoes x)) _ _ _
  refine wpAny_noted ?_
  rw [hturn]
  refine wpAny_bind (wpAny_standAt ?_)
  have lstF : ∀ ys, isFields (LCg.lst ys) = false := fun _ => rfl
  by_cases hlt : i < n
  · refine W.item i _ _ _ _ _ mC hlt hst' hC' (fun v => rfl) fun h₁ tk₁ mC₁ hst₁ hC₁ hB k₁ => ?_
    have nw : ∀ b o, h.get? b = some o → isFields o = false → b ∉ wr := fun b o e hf q => by rw [W.flds i h hst' b q o e] at hf; cases hf
    have hL₁ : ∀ o, h.get? L = some o → h₁.get? L = some o := fun o e => k₁ L o e hLC (nw L o e (ns_fields F' o e))
    have F₁ : Fr g L h₁ m := ⟨F'.ns.at' hL₁, fun b o e => k₁ b o (F'.keep b o e) (fun q => by rw [q, hC₀] at e; cases e) (oldW b o e), F'.above⟩
    have hD₁ : h₁.get? D = some (LCg.lst ys) := k₁ D _ hD' hDC (nw D _ hD' (lstF ys))
    have hJ₁ : J i ys h₁ := stab i ys h h₁ mC F' hC' hD' hJ fun b o e hbL hbC hbD hf => k₁ b o e hbC (hf.elim (nw b o e) fun q hb => by rw [hH b hb] at q; cases q)
    exact wpAny_bind (wpAny_mono (step i h₁ tk₁ ys mC₁ hlt hyl hB F₁ hC₁ hD₁ hJ₁) (fun ok s₃ h₃ => by
      cases ok with
      | false =>
        simp only [Bool.false_eq_true, if_false] at h₃
        refine hide (fun P9 toP9 => ?_)
        obtain ⟨h₄, tk₄, mC₄, rfl, F₄, hC₄, hD₄, kt, hJ₄⟩ := h₃
        (refine toP9 ?_; clear toP9 P9)
        exact wpAny_bind (wpAny_pure (wpAny_pure ⟨rfl, n + 1 - (i + 1), by omega, h₄, tk₄, i + 1, ys, mC₄, rfl, hlt, rfl, Nat.le_succ_of_le hyl, W.hold _ _ _ hst₁ kt F₄.keep (hJE _ _ _ hJ₄), F₄, hC₄, hD₄, hJ₄⟩))
      | true =>
        simp only [if_true] at h₃
        refine wpAny_bind (wpAny_bind (wpAny_mono h₃ (fun x s₄ h₄ => ?_) fun _ _ e => e))
        refine hide (fun P9 toP9 => ?_)
        obtain ⟨h₄, tk₄, mC₄, rfl, F₄, hC₄, hD₄, kt, hJ₄⟩ := h₄
        (refine toP9 ?_; clear toP9 P9)
        refine wpAny_bind (append_at (hsz := by rw [List.size_toArray]; omega) hD₄ fun h₅ hs₅ hD₅ => wpAny_pure (wpAny_pure ⟨rfl, n + 1 - (i + 1), by omega, h₅, tk₄, i + 1, ys ++ [x], mC₄, rfl, hlt, rfl, by rw [List.length_append, List.length_singleton]; omega, ?_, F₄.change hs₅ (Ne.symm hLD) hD₀, hC₄.sameBut hs₅ (Ne.symm hDC), hD₅.trans (congrArg some (LCg.lst_snoc ys x)), ?_⟩))
        · exact W.hold _ _ _ hst₁ (fun b o e hf => hs₅.extBut b o (fun q => by have := kt b o e hf; rw [q, hD₄] at this; cases this; cases hf) (kt b o e hf)) (F₄.change hs₅ (Ne.symm hLD) hD₀).keep (hJE _ _ _ (stab2 (i + 1) ys x h₄ h₅ mC₄ F₄ hC₄ hD₄ hJ₄ fun b o e hb => hs₅.extBut b o hb e))
        · exact stab2 (i + 1) ys x h₄ h₅ mC₄ F₄ hC₄ hD₄ hJ₄ fun b o e hb => hs₅.extBut b o hb e) fun _ _ e => e)
  · obtain rfl : i = n := Nat.le_antisymm hi (Nat.not_lt.mp hlt)
    refine W.done _ _ _ _ hst' fun h₁ tk₁ k₁ => ?_
    have nw : ∀ b o, h.get? b = some o → isFields o = false → b ∉ wr := fun b o e hf q => by rw [W.flds i h hst' b q o e] at hf; cases hf
    have F₁ : Fr g L h₁ m := ⟨F'.ns.at' fun o e => k₁ L o e (nw L o e (ns_fields F' o e)), fun b o e => k₁ b o (F'.keep b o e) (oldW b o e), F'.above⟩
    refine wpAny_pure ?_
    exact done h₁ tk₁ ys mC hyl F₁ (hC'.at' fun o e => k₁ _ o e (nw _ o e (ns_not_fields hC' o e))) (k₁ D _ hD' (nw D _ hD' (lstF ys)))
      (stab i ys h h₁ mC F' hC' hD' hJ fun b o e _ _ _ hf => k₁ b o e (hf.elim (nw b o e) fun q hb => by rw [hH b hb] at q; cases q))
end
section
variable {prog : Program} {w : World} {A : Around} {E : Value → Shared → Prop} {s : Shared} {env : Env} {g : Heap} {L : Addr}
/-- the same, where the items may lie in what was made -/
def CompE (prog : Program) (w : World) (A : Around) (g : Heap) (L : Addr) (env : Env) (scope : Scope) (cl : List (Str × Addr)) (target elt : PySem.Expr) (ifs : List PySem.Expr) (m : Str → Option Value) (Hs : Heap) (n : Nat) (J : Nat → List Value → Heap → Prop) (it : Value) (s₂ : Shared) : Prop :=
  ∃ I wr St Ex, it = .ref I ∧ Fr g L s₂.heap m ∧ St 0 s₂.heap ∧ (∀ b o, Hs.get? b = some o → b ≠ L → s₂.heap.get? b ≠ none) ∧ (∀ b ∈ wr, Hs.get? b = none) ∧ L ∉ wr ∧ (∀ h h' : Heap, St 0 h → (∀ b o, h.get? b = some o → h'.get? b = some o) → St 0 h') ∧ n ≤ sizeLine ∧ (∀ h', (∀ b o, s₂.heap.get? b = some o → h'.get? b = some o) → J 0 [] h') ∧ (∀ i ys h, J i ys h → Ex h) ∧
    ∀ C, s₂.heap.get? C = none → ∃ B, NxtE prog w A g I target (compEnvC scope cl C env) wr n St B Ex ∧
      ∀ D i h tk ys mC (R : Value → Shared → Prop), i < n → ys.length ≤ i → B i mC → Fr g L h m → h.Ns C mC → h.get? D = some (LCg.lst ys) → D ≠ C → L ≠ C → L ≠ D → g.get? C = none → g.get? D = none → Hs.get? C = none → Hs.get? D = none → J i ys h →
        wpAny (model prog w) A (forIn ifs true fun c r => if r = true then do let ok ← isTrue c (compEnvC scope cl C env) (eval c (compEnvC scope cl C env)); pure (ForInStep.yield ok) else pure (ForInStep.yield r)) (fun ok s₃ =>
          if ok = true then wpAny (model prog w) A (eval elt (compEnvC scope cl C env)) (ElH g L m C D h s₂ ys (J (i + 1))) R s₃
          else TsH g L m C D h s₂ ys (J (i + 1)) s₃) R { s₂ with heap := h, toks := tk }
theorem ListComp_E {elt iter target : PySem.Expr} {ifs : List PySem.Expr} {scope : Scope} {cl : List (Str × Addr)} {pos : Pos} {Q : Value → Shared → Prop} {m : Str → Option Value} (Hs : Heap) (J : Nat → List Value → Heap → Prop)
    (stab : ∀ i ys zs h h' C D mC, Fr g L h m → h.Ns C mC → h.get? D = some (LCg.lst zs) → Hs.get? C = none → Hs.get? D = none → J i ys h → KeepC Hs L C D h h' → J i ys h')
    (hclos : closureFor scope env = pure cl) (hcell : ∀ y ∈ scope.names, y.2 ≠ .cell) (hkind : scope.kind = .function)
    (hnames : ∀ y ∈ scope.names, y.2 = .local → scope.names.lookup y.1 = some .local)
    (h : wpAny (model prog w) A (eval iter env) (fun xv s₁ => wpAny (model prog w) A (pyIter xv) (fun it s₂ => ∃ n, CompE prog w A g L env scope cl target elt ifs m Hs n J it s₂ ∧
      ∀ D h' tk ys, ys.length ≤ n → Fr g L h' m → h'.get? D = some (LCg.lst ys) → g.get? D = none → D ≠ L → Hs.get? D = none → J n ys h' → Q (.ref D) { s₂ with heap := h', toks := tk }) E s₁) E s)
    (hs : ∀ x, foldedSetIterable iter env x = pure x := by intro _; rfl) :
    wpAny (model prog w) A (eval (.ListComp elt [⟨target, iter, ifs, 0⟩] scope pos) env) Q E s := by
  rw [eval_ListComp]
  refine wpAny_comprehension_free (use := none) rfl hs hclos hkind hnames (wpAny_mono h (fun xv s₁ h₁ => wpAny_mono h₁ (fun it s₂ h₂ => ?_) fun _ _ e => e) fun _ _ e => e)
  refine hide (fun P9 toP9 => ?_)
  obtain ⟨n, ⟨I, wr, St, Ex, rfl, F, hst, hHs, hwr, hLw, hgrow, hn, j0, hJE, hC⟩, hQ⟩ := h₂
  (refine toP9 ?_; clear toP9 P9)
  refine wpAny_newObj_type (wpAny_newFunctionEnv hcell (by intro y hy; simp at hy) (fun h₁ hns₁ hsb₁ => ?_) hkind)
  dsimp only at hns₁ hsb₁ ⊢
  generalize hH2 : s₂.heap.push { cls := .type "list", dict := none, data := .seq ([] : List Value).toArray } = H2 at hns₁ hsb₁ ⊢
  have hCs : H2.objs.size = s₂.heap.objs.size + 1 := by rw [← hH2, Heap.size_push]
  have fresh : ∀ a, s₂.heap.objs.size ≤ a → s₂.heap.get? a = none := fun a ha => Heap.get?_none_of_le ha
  have fresh₀ : ∀ a, s₂.heap.objs.size ≤ a → g.get? a = none := fun a ha => by
    cases e : g.get? a with
    | none => rfl
    | some o' => have := F.keep a o' e; rw [fresh a ha] at this; cases this
  have hLlt : L < s₂.heap.objs.size := F.ns.lt
  have freshH : ∀ a, s₂.heap.objs.size ≤ a → Hs.get? a = none := fun a ha => by
    cases e : Hs.get? a with
    | none => rfl
    | some o' => exact absurd (fresh a ha) (hHs a o' e (fun q => absurd hLlt (Nat.not_lt.mpr (q ▸ ha))))
  have hDC : s₂.heap.objs.size ≠ H2.objs.size := by rw [hCs]; exact Nat.ne_of_lt (Nat.lt_succ_self _)
  have hLC : L ≠ H2.objs.size := by rw [hCs]; exact Nat.ne_of_lt (Nat.lt_succ_of_lt hLlt)
  have hLD : L ≠ s₂.heap.objs.size := Nat.ne_of_lt hLlt
  have hle : s₂.heap.objs.size ≤ H2.objs.size := by rw [hCs]; exact Nat.le_succ _
  have old : ∀ b o, s₂.heap.get? b = some o → h₁.get? b = some o := fun b o e => hsb₁.extBut b o (by rw [hCs]; exact Nat.ne_of_lt (Nat.lt_succ_of_lt (Heap.lt_size e))) (Heap.get?_push_of_some _ (hH2 ▸ Heap.get?_push_of_some _ e))
  have hacc : h₁.get? s₂.heap.objs.size = some (LCg.lst []) := hsb₁.extBut _ _ hDC (Heap.get?_push_of_some _ (hH2 ▸ Heap.get?_push_size _ rfl))
  refine hide (fun P9 toP9 => ?_)
  obtain ⟨B, W, step⟩ := hC H2.objs.size (fresh _ hle)
  (refine toP9 ?_; clear toP9 P9)
  have hst₁ : St 0 h₁ := hgrow _ _ hst old
  have loop : ∀ s₃ : Shared, s₃ = { s₂ with heap := h₁, toks := s₂.toks + ([] : List (Str × Value)).length } →
      codeAny (model prog w) A (.compLoop (.ListComp elt [⟨target, iter, ifs, 0⟩] scope pos) 0 (.ref I) (.ref s₂.heap.objs.size) (compEnvC scope cl H2.objs.size env))
        (compPost (model prog w) A E none Q (.ref s₂.heap.objs.size) H2.objs.size) s₃ := by
    rintro s₃ rfl
    refine codeAny_compG (H₀ := Hs) (cenv := compEnvC scope cl H2.objs.size env) [] (compTurn_list _ _ _ _ _ _ _ _ _) W hDC hLC hLD (fresh₀ _ hle) (fresh₀ _ (Nat.le_refl _)) hwr hst₁ (F.keeps old) hns₁ hacc (by simpa using hn) J (j0 h₁ old) hJE ?_ ?_ ?_ ?_
    · intro i ys h h' mC F' hC' hD' hJ k
      exact stab i ys ys h h' _ _ mC F' hC' hD' (freshH _ hle) (freshH _ (Nat.le_refl _)) hJ k
    · intro i ys x h h' mC F' hC' hD' hJ k
      exact stab i _ ys h h' _ _ mC F' hC' hD' (freshH _ hle) (freshH _ (Nat.le_refl _)) hJ (fun b o e _ _ hb _ => k b o e hb)
    · intro i h tk ys mC hi hy hB F' hC' hD' hJ
      exact step _ i h tk ys mC _ hi (by simpa using hy) hB F' hC' hD' hDC hLC hLD (fresh₀ _ hle) (fresh₀ _ (Nat.le_refl _)) (freshH _ hle) (freshH _ (Nat.le_refl _)) hJ
    · intro h tk ys mC hyl F' hC' hD' hJ
      exact ⟨mC, hC', fun h'' hs'' => hQ _ h'' tk ys (by simpa using hyl) (F'.change hs'' (Ne.symm hLC) (fresh₀ _ hle)) (hs''.extBut _ _ hDC hD') (fresh₀ _ (Nat.le_refl _)) (Ne.symm hLD) (freshH _ (Nat.le_refl _)) (stab n ys ys h h'' _ _ mC F' hC' hD' (freshH _ hle) (freshH _ (Nat.le_refl _)) hJ (fun b o e _ hb _ _ => hs''.extBut _ _ hb e))⟩
  exact codeAny_compStart_list (loop _ rfl) (W.self 0 _ _ _ hst₁ (loop _ rfl))
end
section
variable {prog : Program} {w : World} {A : Around} {E : Value → Shared → Prop} {s : Shared} {env : Env} {g : Heap} {L : Addr}
theorem ListComp_EF {elt iter target : PySem.Expr} {ifs : List PySem.Expr} {scope : Scope} {cl : List (Str × Addr)} {pos : Pos} {Q : Value → Shared → Prop} {m : Str → Option Value} (F : Fr g L s.heap m) (J : Heap → Nat → List Value → Heap → Prop)
    (stab : ∀ i ys zs h h' C D mC, Fr g L h m → h.Ns C mC → h.get? D = some (LCg.lst zs) → s.heap.get? C = none → s.heap.get? D = none → J s.heap i ys h → KeepC s.heap L C D h h' → J s.heap i ys h')
    (hclos : closureFor scope env = pure cl) (hcell : ∀ y ∈ scope.names, y.2 ≠ .cell) (hkind : scope.kind = .function)
    (hnames : ∀ y ∈ scope.names, y.2 = .local → scope.names.lookup y.1 = some .local)
    (h : wpAny (model prog w) A (eval iter env) (fun xv s₁ => wpAny (model prog w) A (pyIter xv) (fun it s₂ => ∃ n, CompE prog w A g L env scope cl target elt ifs m s.heap n (J s.heap) it s₂ ∧
      ∀ D h' tk ys, ys.length ≤ n → Fr g L h' m → h'.get? D = some (LCg.lst ys) → g.get? D = none → D ≠ L → s.heap.get? D = none → J s.heap n ys h' → Q (.ref D) { s₂ with heap := h', toks := tk }) E s₁) E s)
    (hs : ∀ x, foldedSetIterable iter env x = pure x := by intro _; rfl) :
    wpAny (model prog w) A (eval (.ListComp elt [⟨target, iter, ifs, 0⟩] scope pos) env) Q E s :=
  ListComp_E s.heap (J s.heap) stab hclos hcell hkind hnames h hs
end
section
variable {prog : Program} {w : World} {A : Around} {s : Shared} {env : Env} {g Hs : Heap} {L : Addr} {m : Str → Option Value} {scope : Scope} {cl : List (Str × Addr)} {n : Nat} {x : Str} {p1 : Pos} {elt : PySem.Expr}
theorem compE_range {J : Nat → List Value → Heap → Prop} (hh : A.handled = none) (F : Fr g L s.heap m) (hHs : ∀ b o, Hs.get? b = some o → b ≠ L → s.heap.get? b ≠ none)
    (hkind : scope.kind = .function) (hx : scope.names.lookup x = some .local) (hn : n ≤ sizeLine) (j0 : ∀ h', (∀ b o, s.heap.get? b = some o → h'.get? b = some o) → J 0 [] h') (a c : Int)
    (el : ∀ C D i h tk ys mC (R : Value → Shared → Prop), i < n → ys.length ≤ i → (∃ t, mC x = some (.int (a + i * c) t)) → Fr g L h m → h.Ns C mC → h.get? D = some (LCg.lst ys) →
      D ≠ C → L ≠ C → L ≠ D → g.get? C = none → g.get? D = none → Hs.get? C = none → Hs.get? D = none → J i ys h →
      wpAny (model prog w) A (eval elt (compEnvC scope cl C env)) (ElH g L m C D h s ys (J (i + 1))) R { s with heap := h, toks := tk }) :
    CompE prog w A g L env scope cl (.Name x p1) elt [] m Hs n J (.ref s.heap.objs.size) { s with heap := s.heap.push { cls := .type "range_iterator", data := .fields #[rawInt a, rawInt n, rawInt c] } } := by
  have up : ∀ b o, s.heap.get? b = some o → (s.heap.push { cls := .type "range_iterator", data := .fields #[rawInt a, rawInt n, rawInt c] }).get? b = some o := fun b o e => Heap.get?_push_of_some _ e
  have z := Heap.get?_push_size s.heap (o := { cls := .type "range_iterator", data := .fields #[rawInt a, rawInt n, rawInt c] }) rfl
  have hLlt : L < s.heap.objs.size := F.ns.lt
  refine ⟨s.heap.objs.size, [s.heap.objs.size], _, _, rfl, F.push _, ?st0, ?keep, fun b hb => ?off,
    fun q => absurd F.ns.lt (by rw [List.mem_singleton.mp q]; exact Nat.lt_irrefl _), ?grow, hn, fun h' k => j0 h' fun b o e => k b o (up b o e), fun _ _ _ _ => trivial, fun C hC => ⟨_, Nxt.toE <| nxt_walks (Walks.range hh s.heap.objs.size a c n) hkind hx (no_new F) (fun q => ?ne) ?fl ?sm, ?_⟩⟩
  case st0 => show IsRangeIter _ _ _ _ _; simpa using z
  case keep =>
    intro b o e hb q
    cases e' : s.heap.get? b with
    | none => exact hHs b o e hb e'
    | some o' =>
      have q' : (s.heap.push { cls := .type "range_iterator", data := .fields #[rawInt a, rawInt n, rawInt c] }).get? b = none := q
      rw [up b o' e'] at q'; cases q'
  case off =>
    rw [List.mem_singleton.mp hb]
    cases e : Hs.get? s.heap.objs.size with
    | none => rfl
    | some o => exact absurd (Heap.get?_none_of_le (Nat.le_refl _)) (hHs _ o e (fun q => absurd hLlt (by rw [q]; exact Nat.lt_irrefl _)))
  case grow => exact fun h h' st k => k _ _ st
  case ne =>
    have hC' : (s.heap.push { cls := .type "range_iterator", data := .fields #[rawInt a, rawInt n, rawInt c] }).get? C = none := hC
    rw [q, hC'] at z; cases z
  case fl => intro i h st o e; have st' : h.get? _ = some _ := st; rw [e] at st'; cases st'; rfl
  case sm => exact fun i h st => ⟨_, st⟩
  · intro D i h tk ys mC R hi hy hB F' hC' hD' n1 n2 n3 n4 n5 hC₀ hD₀ hJ
    refine wpAny_tests_nil ?_
    simp only [if_true]
    refine hide (fun P9 toP9 => ?_)
    obtain ⟨v, ⟨t, rfl⟩, hm⟩ := hB
    (refine toP9 ?_; clear toP9 P9)
    exact el C D i h tk ys mC R hi hy ⟨t, hm⟩ F' hC' hD' n1 n2 n3 n4 n5 hC₀ hD₀ hJ
end
section
variable {prog : Program} {w : World} {A : Around} {env : Env} {g : Heap} {scope : Scope} {cl : List (Str × Addr)} {C I l : Addr} {items : List Value} {x x1 x2 : Str} {p1 p2 tp : Pos} {tk}
theorem lst_ne_ns {h : Heap} {a c : Addr} {items : Array Value} {mC : Str → Option Value} (hl : h.IsList a items) (hC : h.Ns c mC) : a ≠ c := by
  rintro rfl
  refine hide (fun P9 toP9 => ?_)
  obtain ⟨o, ho, _, n, hd⟩ := hl
  obtain ⟨o', es, ep, e', hd', _⟩ := hC
  (refine toP9 ?_; clear toP9 P9)
  rw [ho] at e'; cases e'
  rw [hd] at hd'; cases hd'
theorem tup_ne_ns {h : Heap} {a c : Addr} {items : Array Value} {mC : Str → Option Value} (hl : IsTup h a items) (hC : h.Ns c mC) : a ≠ c := by
  rintro rfl
  refine hide (fun P9 toP9 => ?_)
  obtain ⟨o, ho, _, n, hd⟩ := hl
  obtain ⟨o', es, ep, e', hd', _⟩ := hC
  (refine toP9 ?_; clear toP9 P9)
  rw [ho] at e'; cases e'
  rw [hd] at hd'; cases hd'
theorem tup_ne_iter {h : Heap} {a c l : Addr} {i : Nat} {items : Array Value} (hl : IsTup h a items) (hC : h.IsListIter c l i) : a ≠ c := by
  rintro rfl
  refine hide (fun P9 toP9 => ?_)
  obtain ⟨o, ho, _, n, hd⟩ := hl
  obtain ⟨o', e', _, hd'⟩ := hC
  (refine toP9 ?_; clear toP9 P9)
  rw [ho] at e'; cases e'
  rw [hd] at hd'; cases hd'
theorem lst_ne_iter {h : Heap} {a c l : Addr} {i : Nat} {items : Array Value} (hl : h.IsList a items) (hC : h.IsListIter c l i) : a ≠ c := by
  rintro rfl
  refine hide (fun P9 toP9 => ?_)
  obtain ⟨o, ho, _, n, hd⟩ := hl
  obtain ⟨o', e', _, hd'⟩ := hC
  (refine toP9 ?_; clear toP9 P9)
  rw [ho] at e'; cases e'
  rw [hd] at hd'; cases hd'
theorem go_listiter {prog : Program} {w : World} {A : Around} {E : Value → Shared → Prop} {s : Shared} {elts : List PySem.Expr} {x1} {pos : Pos} {I l T : Addr} {i : Nat} {Q : Unit → Shared → Prop} (hit : s.heap.IsListIter I l i) (hQ : Q () s) :
    wpAny (model prog w) A (letOwnedTupleGo (.Tuple elts x1 pos) (.ref I) (.ref T)) Q E s := by
  refine hide (fun P9 toP9 => ?_)
  obtain ⟨o, ho, hc, hd⟩ := hit
  (refine toP9 ?_; clear toP9 P9)
  unfold letOwnedTupleGo
  refine wpAny_bind (wpAny_load ho ?_)
  rw [hc, hd]
  show wpAny _ A (if (["enumerate", "zip", "dict_itemiterator", "dict_reverseitemiterator", "odict_iterator", "itertools.zip_longest", "itertools.pairwise"].contains "list_iterator" &&
      (#[.ref l, .int i 0] : Array Value)[0]? == some (rawInt T)) = true then _ else _) Q E s
  rw [if_neg (by
    intro h
    rw [show (["enumerate", "zip", "dict_itemiterator", "dict_reverseitemiterator", "odict_iterator", "itertools.zip_longest", "itertools.pairwise"].contains "list_iterator") = false from by decide, Bool.false_and] at h
    cases h)]
  exact wpAny_pure hQ
theorem nxtE_list (hh : A.handled = none) (hkind : scope.kind = .function) (hx : scope.names.lookup x = some .local) (hI : g.get? I = none) (hIC : I ≠ C) :
    NxtE prog w A g I (.Name x p1) (compEnvC scope cl C env) [I] items.length (fun i h => h.IsListIter I l i ∧ h.IsList l items.toArray) (fun i mC => ∃ v, items[i]? = some v ∧ mC x = some v) (fun h => h.IsList l items.toArray) where
  item := fun i s K T P E mC hi st hC hK h => by
    have hv : items[i]? = some items[i] := by simp [hi]
    refine wpAny_bind (wpAny_pyNext_list_item st.1 st.2 (x := items[i]) (by simpa using hv) fun h₁ hit₁ hs₁ => ?_)
    rw [hK]
    have hlI := lst_ne_iter st.2 st.1
    have hlC : l ≠ C := lst_ne_ns st.2 hC
    refine wpAny_bind (wpAny_pure (wpAny_bind (wpAny_assign_Name (wpAny_storeName_local (lookup_relabel_local hx) (hC.at' fun o e => hs₁.extBut _ o (Ne.symm hIC) e) (fun h₇ hn₇ hs₇ => ?_) (by simp [compEnvC, relabel, hkind])))))
    refine hide (fun P9 toP9 => ?_)
    obtain ⟨oi, hoi, ri⟩ := hit₁
    (refine toP9 ?_; clear toP9 P9)
    exact h h₇ _ _ ⟨⟨oi, hs₇.extBut _ _ hIC hoi, ri⟩, st.2.at fun o e => hs₇.extBut l o hlC (hs₁.extBut l o hlI e)⟩ hn₇ ⟨_, hv, by simp⟩
      fun b o e hb hw => hs₇.extBut b o hb (hs₁.extBut _ _ (by simpa using hw) e)
  done := fun s K P E st h => wpAny_bind (wpAny_pyNext_list_end hh st.1 st.2 (by simp) fun h' he => h h' s.toks fun b o e hb => he b o (by simpa using hb) e)
  flds := fun i h st b hb o e => by
    refine hide (fun P9 toP9 => ?_)
    obtain ⟨o', ho', _, hd⟩ := st.1
    (refine toP9 ?_; clear toP9 P9)
    rw [List.mem_singleton.mp hb, ho'] at e; cases e
    unfold isFields; rw [hd]
  hold := fun i h h' st kt kg ex => by
    refine hide (fun P9 toP9 => ?_)
    obtain ⟨o', ho', hc, hd⟩ := st.1
    (refine toP9 ?_; clear toP9 P9)
    exact ⟨⟨o', kt _ _ ho' (by unfold isFields; rw [hd]), hc, hd⟩, ex⟩
  offB := fun b hb => by rw [List.mem_singleton.mp hb]; exact hI
  self := fun i s Q E st hQ => wpAny_pyIter_listiter st.1 hQ
/-- a list of pairs, wherever they lie -/
def PairItems (h : Heap) (items : List Value) (prs : List (Value × Value)) : Prop := ∀ (i : Nat) (v : Value), items[i]? = some v → ∃ t p, v = .ref t ∧ prs[i]? = some p ∧ IsTup h t #[p.1, p.2]
theorem nxtE_listP {prs : List (Value × Value)} (hh : A.handled = none) (hkind : scope.kind = .function) (hx1 : scope.names.lookup x1 = some .local) (hx2 : scope.names.lookup x2 = some .local) (hxx : x1 ≠ x2) (hI : g.get? I = none) (hIC : I ≠ C) :
    NxtE prog w A g I (.Tuple [.Name x1 p1, .Name x2 p2] tk tp) (compEnvC scope cl C env) [I] items.length (fun i h => h.IsListIter I l i ∧ h.IsList l items.toArray ∧ PairItems h items prs)
      (fun i mC => ∃ p, prs[i]? = some p ∧ mC x1 = some p.1 ∧ mC x2 = some p.2) (fun h => h.IsList l items.toArray ∧ PairItems h items prs) where
  item := fun i s K T P E mC hi st hC hK h => by
    refine hide (fun P9 toP9 => ?_)
    obtain ⟨st1, st2, st3⟩ := st
    obtain ⟨t, p, hv, hp, htt⟩ := st3 i items[i] (by simp [hi])
    (refine toP9 ?_; clear toP9 P9)
    refine wpAny_bind (wpAny_pyNext_list_item st1 st2 (x := .ref t) (by rw [← hv]; simp [hi]) fun h₁ hit₁ hs₁ => ?_)
    rw [hK]
    have hlI := lst_ne_iter st2 st1
    have hlC : l ≠ C := lst_ne_ns st2 hC
    refine wpAny_bind (go_listiter hit₁ (wpAny_bind ?_))
    have k₁ : ∀ b o, b ≠ I → s.heap.get? b = some o → h₁.get? b = some o := fun b o hb e => hs₁.extBut b o hb e
    have kt₁ : ∀ {a its}, IsTup s.heap a its → IsTup h₁ a its := fun {a its} q => by
      have n := tup_ne_iter q st1
      obtain ⟨o, ho, r⟩ := q
      exact ⟨o, k₁ _ _ n ho, r⟩
    refine assign_Tuple_tuple hh (kt₁ htt) rfl rfl fun h₅ he => ?_
    have he' : ∀ b o, h₁.get? b = some o → h₅.get? b = some o := fun b o e => he b o (Nat.ne_of_lt (Heap.lt_size e)) e
    have hC₅ : h₅.Ns C mC := (hC.at' fun o e => k₁ _ o (Ne.symm hIC) e).at' fun o e => he' _ o e
    refine assignInOrder_cons (wpAny_assign_Name (wpAny_storeName_local (lookup_relabel_local hx1) hC₅ (fun h₆ hn₆ hs₆ => ?_) (by simp [compEnvC, relabel, hkind])))
    refine assignInOrder_cons (wpAny_assign_Name (wpAny_storeName_local (lookup_relabel_local hx2) hn₆ (fun h₇ hn₇ hs₇ => ?_) (by simp [compEnvC, relabel, hkind])))
    refine assignInOrder_nil ?_
    have up : ∀ b o, b ≠ C → h₅.get? b = some o → h₇.get? b = some o := fun b o hb e => hs₇.extBut b o hb (hs₆.extBut b o hb e)
    refine hide (fun P9 toP9 => ?_)
    obtain ⟨oi, hoi, ri⟩ := hit₁
    (refine toP9 ?_; clear toP9 P9)
    refine h h₇ _ _ ⟨⟨oi, up _ _ hIC (he' _ _ hoi), ri⟩, st2.at fun o e => up l o hlC (he' _ _ (k₁ l o hlI e)), fun j v e => ?_⟩ hn₇ ⟨p, hp, by simp [hxx], by simp⟩
      fun b o e hb hw => up b o hb (he' _ _ (k₁ _ _ (by simpa using hw) e))
    refine hide (fun P9 toP9 => ?_)
    obtain ⟨t', p', e1, e2, e3⟩ := st3 j v e
    have nC := tup_ne_ns e3 hC
    obtain ⟨o, ho, r⟩ := kt₁ e3
    (refine toP9 ?_; clear toP9 P9)
    exact ⟨t', p', e1, e2, o, up _ _ nC (he' _ _ ho), r⟩
  done := fun s K P E st h => wpAny_bind (wpAny_pyNext_list_end hh st.1 st.2.1 (by simp) fun h' he => h h' s.toks fun b o e hb => he b o (by simpa using hb) e)
  flds := fun i h st b hb o e => by
    refine hide (fun P9 toP9 => ?_)
    obtain ⟨o', ho', _, hd⟩ := st.1
    (refine toP9 ?_; clear toP9 P9)
    rw [List.mem_singleton.mp hb, ho'] at e; cases e
    unfold isFields; rw [hd]
  hold := fun i h h' st kt kg ex => by
    refine hide (fun P9 toP9 => ?_)
    obtain ⟨o', ho', hc, hd⟩ := st.1
    (refine toP9 ?_; clear toP9 P9)
    exact ⟨⟨o', kt _ _ ho' (by unfold isFields; rw [hd]), hc, hd⟩, ex⟩
  offB := fun b hb => by rw [List.mem_singleton.mp hb]; exact hI
  self := fun i s Q E st hQ => wpAny_pyIter_listiter st.1 hQ
end
section
variable {prog : Program} {w : World} {A : Around} {s : Shared} {env : Env} {g Hs : Heap} {L l : Addr} {m : Str → Option Value} {scope : Scope} {cl : List (Str × Addr)} {items : List Value} {x x1 x2 : Str} {p1 p2 tp : Pos} {tk0} {elt : PySem.Expr}
theorem compE_list {J : Nat → List Value → Heap → Prop} (hh : A.handled = none) (F : Fr g L s.heap m) (hHs : ∀ b o, Hs.get? b = some o → b ≠ L → s.heap.get? b ≠ none)
    (hkind : scope.kind = .function) (hx : scope.names.lookup x = some .local) (hn : items.length ≤ sizeLine) (hl : s.heap.IsList l items.toArray) (j0 : ∀ h', (∀ b o, s.heap.get? b = some o → h'.get? b = some o) → J 0 [] h') (hJE : ∀ i ys h, J i ys h → h.IsList l items.toArray)
    (el : ∀ C D i h tk ys mC (R : Value → Shared → Prop), i < items.length → ys.length ≤ i → (∃ v, items[i]? = some v ∧ mC x = some v) → Fr g L h m → h.Ns C mC → h.get? D = some (LCg.lst ys) →
      D ≠ C → L ≠ C → L ≠ D → g.get? C = none → g.get? D = none → Hs.get? C = none → Hs.get? D = none → J i ys h →
      wpAny (model prog w) A (eval elt (compEnvC scope cl C env)) (ElH g L m C D h s ys (J (i + 1))) R { s with heap := h, toks := tk }) :
    CompE prog w A g L env scope cl (.Name x p1) elt [] m Hs items.length J (.ref s.heap.objs.size) { s with heap := s.heap.push { cls := .type "list_iterator", data := .fields #[.ref l, .int 0 0] } } := by
  have up : ∀ b o, s.heap.get? b = some o → (s.heap.push { cls := .type "list_iterator", data := .fields #[.ref l, .int 0 0] }).get? b = some o := fun b o e => Heap.get?_push_of_some _ e
  have z := Heap.get?_push_size s.heap (o := { cls := .type "list_iterator", data := .fields #[.ref l, .int 0 0] }) rfl
  have hLlt : L < s.heap.objs.size := F.ns.lt
  refine ⟨s.heap.objs.size, [s.heap.objs.size], _, _, rfl, F.push _, ⟨⟨_, z, rfl, rfl⟩, hl.at fun o e => up _ _ e⟩, ?keep, fun b hb => ?off,
    fun q => absurd F.ns.lt (by rw [List.mem_singleton.mp q]; exact Nat.lt_irrefl _), ?grow, hn, fun h' k => j0 h' fun b o e => k b o (up b o e), hJE, fun C hC => ⟨_, nxtE_list hh hkind hx (no_new F) (fun q => ?ne), ?_⟩⟩
  case keep =>
    intro b o e hb q
    cases e' : s.heap.get? b with
    | none => exact hHs b o e hb e'
    | some o' =>
      have q' : (s.heap.push { cls := .type "list_iterator", data := .fields #[.ref l, .int 0 0] }).get? b = none := q
      rw [up b o' e'] at q'; cases q'
  case off =>
    rw [List.mem_singleton.mp hb]
    cases e : Hs.get? s.heap.objs.size with
    | none => rfl
    | some o => exact absurd (Heap.get?_none_of_le (Nat.le_refl _)) (hHs _ o e (fun q => absurd hLlt (by rw [q]; exact Nat.lt_irrefl _)))
  case grow => exact fun h h' st k => ⟨let ⟨o, e, r⟩ := st.1; ⟨o, k _ _ e, r⟩, st.2.at fun o e => k _ _ e⟩
  case ne =>
    have hC' : (s.heap.push { cls := .type "list_iterator", data := .fields #[.ref l, .int 0 0] }).get? C = none := hC
    rw [q, hC'] at z; cases z
  · intro D i h tk ys mC R hi hy hB F' hC' hD' n1 n2 n3 n4 n5 hC₀ hD₀ hJ
    refine wpAny_tests_nil ?_
    simp only [if_true]
    exact el C D i h tk ys mC R hi hy hB F' hC' hD' n1 n2 n3 n4 n5 hC₀ hD₀ hJ
theorem compE_listP {prs : List (Value × Value)} {J : Nat → List Value → Heap → Prop} (hh : A.handled = none) (F : Fr g L s.heap m) (hHs : ∀ b o, Hs.get? b = some o → b ≠ L → s.heap.get? b ≠ none)
    (hkind : scope.kind = .function) (hx1 : scope.names.lookup x1 = some .local) (hx2 : scope.names.lookup x2 = some .local) (hxx : x1 ≠ x2) (hn : items.length ≤ sizeLine) (hl : s.heap.IsList l items.toArray) (hp : PairItems s.heap items prs) (j0 : ∀ h', (∀ b o, s.heap.get? b = some o → h'.get? b = some o) → J 0 [] h') (hJE : ∀ i ys h, J i ys h → h.IsList l items.toArray ∧ PairItems h items prs)
    (el : ∀ C D i h tk ys mC (R : Value → Shared → Prop), i < items.length → ys.length ≤ i → (∃ p, prs[i]? = some p ∧ mC x1 = some p.1 ∧ mC x2 = some p.2) → Fr g L h m → h.Ns C mC → h.get? D = some (LCg.lst ys) →
      D ≠ C → L ≠ C → L ≠ D → g.get? C = none → g.get? D = none → Hs.get? C = none → Hs.get? D = none → J i ys h →
      wpAny (model prog w) A (eval elt (compEnvC scope cl C env)) (ElH g L m C D h s ys (J (i + 1))) R { s with heap := h, toks := tk }) :
    CompE prog w A g L env scope cl (.Tuple [.Name x1 p1, .Name x2 p2] tk0 tp) elt [] m Hs items.length J (.ref s.heap.objs.size) { s with heap := s.heap.push { cls := .type "list_iterator", data := .fields #[.ref l, .int 0 0] } } := by
  have up : ∀ b o, s.heap.get? b = some o → (s.heap.push { cls := .type "list_iterator", data := .fields #[.ref l, .int 0 0] }).get? b = some o := fun b o e => Heap.get?_push_of_some _ e
  have z := Heap.get?_push_size s.heap (o := { cls := .type "list_iterator", data := .fields #[.ref l, .int 0 0] }) rfl
  have hLlt : L < s.heap.objs.size := F.ns.lt
  have mono : ∀ {h h' : Heap}, (∀ b o, h.get? b = some o → h'.get? b = some o) → PairItems h items prs → PairItems h' items prs := fun k q i v e => let ⟨t, p, a, b, c⟩ := q i v e; ⟨t, p, a, b, c.keeps k⟩
  refine ⟨s.heap.objs.size, [s.heap.objs.size], _, _, rfl, F.push _, ⟨⟨_, z, rfl, rfl⟩, hl.at fun o e => up _ _ e, mono up hp⟩, ?keep, fun b hb => ?off,
    fun q => absurd F.ns.lt (by rw [List.mem_singleton.mp q]; exact Nat.lt_irrefl _), ?grow, hn, fun h' k => j0 h' fun b o e => k b o (up b o e), hJE, fun C hC => ⟨_, nxtE_listP hh hkind hx1 hx2 hxx (no_new F) (fun q => ?ne), ?_⟩⟩
  case keep =>
    intro b o e hb q
    cases e' : s.heap.get? b with
    | none => exact hHs b o e hb e'
    | some o' =>
      have q' : (s.heap.push { cls := .type "list_iterator", data := .fields #[.ref l, .int 0 0] }).get? b = none := q
      rw [up b o' e'] at q'; cases q'
  case off =>
    rw [List.mem_singleton.mp hb]
    cases e : Hs.get? s.heap.objs.size with
    | none => rfl
    | some o => exact absurd (Heap.get?_none_of_le (Nat.le_refl _)) (hHs _ o e (fun q => absurd hLlt (by rw [q]; exact Nat.lt_irrefl _)))
  case grow => exact fun h h' st k => ⟨let ⟨o, e, r⟩ := st.1; ⟨o, k _ _ e, r⟩, st.2.1.at fun o e => k _ _ e, mono k st.2.2⟩
  case ne =>
    have hC' : (s.heap.push { cls := .type "list_iterator", data := .fields #[.ref l, .int 0 0] }).get? C = none := hC
    rw [q, hC'] at z; cases z
  · intro D i h tk ys mC R hi hy hB F' hC' hD' n1 n2 n3 n4 n5 hC₀ hD₀ hJ
    refine wpAny_tests_nil ?_
    simp only [if_true]
    exact el C D i h tk ys mC R hi hy hB F' hC' hD' n1 n2 n3 n4 n5 hC₀ hD₀ hJ
end
section
variable {prog : Program} {w : World} {A : Around} {E : Value → Shared → Prop} {s : Shared} {env : Env} {g H₀ : Heap} {L : Addr} {m : Str → Option Value}
theorem compTurn_two0 (elt t1 i1 t2 i2 : PySem.Expr) (scope : Scope) (pos : Pos) (it acc : Value) (env : Env) :
    compTurn (.ListComp elt [⟨t1, i1, [], 0⟩, ⟨t2, i2, [], 0⟩] scope pos) 0 it acc env = (do
      standAt i1.pos
      match ← pyNext it with
      | none => pure (.done .next)
      | some v =>
        letOwnedTupleGo t1 it v
        assign t1 env v
        let x ← eval i2 env
        standAt i2.pos
        let x ← foldedSetIterable i2 env x
        let _ ← runOwn (.compStart (.ListComp elt [⟨t1, i1, [], 0⟩, ⟨t2, i2, [], 0⟩] scope pos) 1 (← holding [x] (pyIter x)) acc env) env
        again (.compLoop (.ListComp elt [⟨t1, i1, [], 0⟩, ⟨t2, i2, [], 0⟩] scope pos) 0 it acc env)) := by rfl
theorem compTurn_two1 (elt t1 i1 t2 i2 : PySem.Expr) (scope : Scope) (pos : Pos) (it acc : Value) (env : Env) :
    compTurn (.ListComp elt [⟨t1, i1, [], 0⟩, ⟨t2, i2, [], 0⟩] scope pos) 1 it acc env = (do
      standAt i2.pos
      match ← pyNext it with
      | none => pure (.done .next)
      | some v =>
        letOwnedTupleGo t2 it v
        assign t2 env v
        let mut ok := true
        for c in ([] : List PySem.Expr) do
          if ok then ok ← isTrue c env (eval c env)
        if ok then
          (do let _ ← call (.builtin "list.append") [acc, ← eval elt env])
        again (.compLoop (.ListComp elt [⟨t1, i1, [], 0⟩, ⟨t2, i2, [], 0⟩] scope pos) 1 it acc env)) := by rfl
theorem codeAny_compStart1 {R : Result → Shared → Prop} {elt t1 i1 t2 i2 : PySem.Expr} {scope pos it acc}
    (h0 : codeAny (model prog w) A (.compLoop (.ListComp elt [⟨t1, i1, [], 0⟩, ⟨t2, i2, [], 0⟩] scope pos) 1 it acc env) R s)
    (h : wpAny (model prog w) A (pyIter it) (fun it' s' => codeAny (model prog w) A (.compLoop (.ListComp elt [⟨t1, i1, [], 0⟩, ⟨t2, i2, [], 0⟩] scope pos) 1 it' acc env) R s')
      (notedBy (model prog w) A env fun x s' => R (.error x) s') s) :
    codeAny (model prog w) A (.compStart (.ListComp elt [⟨t1, i1, [], 0⟩, ⟨t2, i2, [], 0⟩] scope pos) 1 it acc env) R s := by
  refine codeAny_of_tree ?_
  show wpAny _ _ ((compStart (.ListComp elt [⟨t1, i1, [], 0⟩, ⟨t2, i2, [], 0⟩] scope pos) 1 it acc env).onRaise (fun x => do noteFrame x env; standAt theWindowsPlace)) _ _ s
  refine wpAny_notedAt ?_
  unfold compStart
  show wpAny _ _ (ask >>= _) _ _ s
  refine wpAny_bind (wpAny_askSetting (wpAny_ite ?_))
  split
  · first
      | exact wpAny_bind (wpAny_pure (wpAny_pure (And.intro rfl h0)))
      | exact wpAny_pure (And.intro rfl h0)
  · first
      | exact wpAny_bind (wpAny_rule (wpAny_bind (wpAny_standAt (wpAny_bind (wpAny_mono h (fun it' s' h' => wpAny_pure (And.intro rfl h')) fun _ _ x => x)))))
def Turn2 (g : Heap) (L : Addr) (m : Str → Option Value) (C D : Addr) (h : Heap) (s : Shared) (Jn : List Value → Heap → Prop) (s' : Shared) : Prop :=
  ∃ h' tk' mC' ys', s' = { s with heap := h', toks := tk' } ∧ Fr g L h' m ∧ h'.Ns C mC' ∧ h'.get? D = some (LCg.lst ys') ∧ KeepIt h h' ∧ Jn ys' h'
theorem codeAny_comp2 {R : Result → Shared → Prop} {elt t1 i1 t2 i2 : PySem.Expr} {scope : Scope} {pos : Pos} {I D : Addr} {wr : List Addr} {n : Nat} {St : Nat → Heap → Prop} {B : Nat → (Str → Option Value) → Prop} {Ex : Heap → Prop} {mC : Str → Option Value} {cenv : Env}
    (W : NxtE prog w A g I t1 cenv wr n St B Ex) (hDC : D ≠ cenv.locals) (hLC : L ≠ cenv.locals) (hLD : L ≠ D) (hC₀ : g.get? cenv.locals = none) (hD₀ : g.get? D = none) (hH : ∀ b ∈ wr, H₀.get? b = none) (hfs : ∀ x, foldedSetIterable i2 cenv x = pure x)
    (hst : St 0 s.heap) (F : Fr g L s.heap m) (hC : s.heap.Ns cenv.locals mC) (hD : s.heap.get? D = some (LCg.lst []))
    (J : Nat → List Value → Heap → Prop) (j0 : J 0 [] s.heap) (hJE : ∀ i ys h, J i ys h → Ex h)
    (stab : ∀ i ys h h' mC, Fr g L h m → h.Ns cenv.locals mC → h.get? D = some (LCg.lst ys) → J i ys h → (∀ b o, h.get? b = some o → b ≠ L → b ≠ cenv.locals → b ≠ D → (isFields o = false ∨ H₀.get? b = some o) → h'.get? b = some o) → J i ys h')
    (step : ∀ i h tk ys mC, i < n → B i mC → Fr g L h m → h.Ns cenv.locals mC → h.get? D = some (LCg.lst ys) → J i ys h →
      wpAny (model prog w) A (eval i2 cenv) (fun x s₃ => wpAny (model prog w) A (pyIter x) (fun it2 s₄ => codeAny (model prog w) A (.compStart (.ListComp elt [⟨t1, i1, [], 0⟩, ⟨t2, i2, [], 0⟩] scope pos) 1 it2 (.ref D) cenv)
          (fun r s' => match r with | .ok _ => Turn2 g L m cenv.locals D h s (J (i + 1)) s' | .error e => cameBackBy (model prog w) A cenv (notedBy (model prog w) A cenv fun e s' => R (.error e) s') e s') s₄)
        (notedBy (model prog w) A cenv fun e s' => R (.error e) s') s₃) (notedBy (model prog w) A cenv fun e s' => R (.error e) s') { s with heap := h, toks := tk })
    (done : ∀ h tk ys mC, Fr g L h m → h.Ns cenv.locals mC → h.get? D = some (LCg.lst ys) → J n ys h → R (.ok .next) { s with heap := h, toks := tk }) :
    codeAny (model prog w) A (.compLoop (.ListComp elt [⟨t1, i1, [], 0⟩, ⟨t2, i2, [], 0⟩] scope pos) 0 (.ref I) (.ref D) cenv) R s := by
  have oldW : ∀ b o, g.get? b = some o → b ∉ wr := fun b o e hb => by rw [W.offB b hb] at e; cases e
  refine codeAny_loop rfl (fun k s' => ∃ h tk i ys mC, s' = { s with heap := h, toks := tk } ∧ i ≤ n ∧ k = n + 1 - i ∧ St i h ∧ Fr g L h m ∧ h.Ns cenv.locals mC ∧ h.get? D = some (LCg.lst ys) ∧ J i ys h) ?_ (n + 1)
    ⟨s.heap, s.toks, 0, [], mC, rfl, Nat.zero_le _, rfl, hst, F, hC, hD, j0⟩
  rintro k s' ⟨h, tk, i, ys, mC, rfl, hi, rfl, hst', F', hC', hD', hJ⟩
  show wpAny _ A ((compTurn (.ListComp elt [⟨t1, i1, [], 0⟩, ⟨t2, i2, [], 0⟩] scope pos) 0 (.ref I) (.ref D) cenv).onRaise (fun x => do noteFrame x cenv; theTreesLotGoes x)) _ _ _
  refine wpAny_noted ?_
  rw [compTurn_two0]
  refine wpAny_bind (wpAny_standAt ?_)
  have lstF : ∀ ys, isFields (LCg.lst ys) = false := fun _ => rfl
  have nw : ∀ b o, h.get? b = some o → isFields o = false → b ∉ wr := fun b o e hf q => by rw [W.flds i h hst' b q o e] at hf; cases hf
  by_cases hlt : i < n
  · refine W.item i _ _ _ _ _ mC hlt hst' hC' (fun v => rfl) fun h₁ tk₁ mC₁ hst₁ hC₁ hB k₁ => ?_
    have hL₁ : ∀ o, h.get? L = some o → h₁.get? L = some o := fun o e => k₁ L o e hLC (nw L o e (ns_fields F' o e))
    have F₁ : Fr g L h₁ m := ⟨F'.ns.at' hL₁, fun b o e => k₁ b o (F'.keep b o e) (fun q => by rw [q, hC₀] at e; cases e) (oldW b o e), F'.above⟩
    have hD₁ : h₁.get? D = some (LCg.lst ys) := k₁ D _ hD' hDC (nw D _ hD' (lstF ys))
    have hJ₁ : J i ys h₁ := stab i ys h h₁ mC F' hC' hD' hJ fun b o e hbL hbC hbD hf => k₁ b o e hbC (hf.elim (nw b o e) fun q hb => by rw [hH b hb] at q; cases q)
    refine wpAny_bind (wpAny_mono (step i h₁ tk₁ ys mC₁ hlt hB F₁ hC₁ hD₁ hJ₁) (fun x s₃ h₃ => ?_) fun _ _ e => e)
    refine wpAny_bind (wpAny_standAt (wpAny_bind (wpAny_of_eq (hfs x) (wpAny_bind (wpAny_holding (wpAny_mono h₃ (fun it2 s₄ h₄ => ?_) fun _ _ e => e))))))
    refine wpAny_bind (wpAny_runOwn (codeAny_mono h₄ fun r s' hr => ?_))
    cases r with
    | error e => exact hr
    | ok f =>
      refine hide (fun P9 toP9 => ?_)
      obtain ⟨h₄, tk₄, mC₄, ys', rfl, F₄, hC₄, hD₄, kt, hJ₄⟩ := hr
      (refine toP9 ?_; clear toP9 P9)
      exact wpAny_pure ⟨rfl, n + 1 - (i + 1), by omega, h₄, tk₄, i + 1, ys', mC₄, rfl, hlt, rfl, W.hold _ _ _ hst₁ kt F₄.keep (hJE _ _ _ hJ₄), F₄, hC₄, hD₄, hJ₄⟩
  · obtain rfl : i = n := Nat.le_antisymm hi (Nat.not_lt.mp hlt)
    refine W.done _ _ _ _ hst' fun h₁ tk₁ k₁ => ?_
    have F₁ : Fr g L h₁ m := ⟨F'.ns.at' fun o e => k₁ L o e (nw L o e (ns_fields F' o e)), fun b o e => k₁ b o (F'.keep b o e) (oldW b o e), F'.above⟩
    refine wpAny_pure ?_
    exact done h₁ tk₁ ys mC F₁ (hC'.at' fun o e => k₁ _ o e (nw _ o e (ns_not_fields hC' o e))) (k₁ D _ hD' (nw D _ hD' (lstF ys)))
      (stab i ys h h₁ mC F' hC' hD' hJ fun b o e _ _ _ hf => k₁ b o e (hf.elim (nw b o e) fun q hb => by rw [hH b hb] at q; cases q))
def Comp2 (prog : Program) (w : World) (A : Around) (g : Heap) (L : Addr) (env : Env) (scope : Scope) (cl : List (Str × Addr)) (elt t1 i1 t2 i2 : PySem.Expr) (pos : Pos) (m : Str → Option Value) (Hs : Heap) (n : Nat) (J : Nat → List Value → Heap → Prop) (it : Value) (s₂ : Shared) : Prop :=
  ∃ I wr St Ex, it = .ref I ∧ Fr g L s₂.heap m ∧ St 0 s₂.heap ∧ (∀ b o, Hs.get? b = some o → b ≠ L → s₂.heap.get? b ≠ none) ∧ (∀ b ∈ wr, Hs.get? b = none) ∧ L ∉ wr ∧ (∀ h h' : Heap, St 0 h → (∀ b o, h.get? b = some o → h'.get? b = some o) → St 0 h') ∧ (∀ h', (∀ b o, s₂.heap.get? b = some o → h'.get? b = some o) → J 0 [] h') ∧ (∀ i ys h, J i ys h → Ex h) ∧
    ∀ C, s₂.heap.get? C = none → ∃ B, NxtE prog w A g I t1 (compEnvC scope cl C env) wr n St B Ex ∧
      ∀ D i h tk ys mC (R : Value → Shared → Prop), i < n → B i mC → Fr g L h m → h.Ns C mC → h.get? D = some (LCg.lst ys) → D ≠ C → L ≠ C → L ≠ D → g.get? C = none → g.get? D = none → Hs.get? C = none → Hs.get? D = none → J i ys h →
        wpAny (model prog w) A (eval i2 (compEnvC scope cl C env)) (fun x s₃ => wpAny (model prog w) A (pyIter x) (fun it2 s₄ => codeAny (model prog w) A (.compStart (.ListComp elt [⟨t1, i1, [], 0⟩, ⟨t2, i2, [], 0⟩] scope pos) 1 it2 (.ref D) (compEnvC scope cl C env))
          (fun r s' => match r with | .ok _ => Turn2 g L m C D h s₂ (J (i + 1)) s' | .error e => cameBackBy (model prog w) A (compEnvC scope cl C env) R e s') s₄) R s₃) R { s₂ with heap := h, toks := tk }
theorem ListComp_2 {elt t1 i1 t2 i2 : PySem.Expr} {scope : Scope} {cl : List (Str × Addr)} {pos : Pos} {Q : Value → Shared → Prop} {m : Str → Option Value} (F : Fr g L s.heap m)
    (hclos : closureFor scope env = pure cl) (hcell : ∀ y ∈ scope.names, y.2 ≠ .cell) (hkind : scope.kind = .function)
    (hnames : ∀ y ∈ scope.names, y.2 = .local → scope.names.lookup y.1 = some .local) (hfs : ∀ C x, foldedSetIterable i2 (compEnvC scope cl C env) x = pure x)
    (h : wpAny (model prog w) A (eval i1 env) (fun xv s₁ => wpAny (model prog w) A (pyIter xv) (fun it s₂ => ∃ (n : Nat) (J : Nat → List Value → Heap → Prop), (∀ i ys zs h h' C D mC, Fr g L h m → h.Ns C mC → h.get? D = some (LCg.lst zs) → s.heap.get? C = none → s.heap.get? D = none → J i ys h → KeepC s.heap L C D h h' → J i ys h') ∧ Comp2 prog w A g L env scope cl elt t1 i1 t2 i2 pos m s.heap n J it s₂ ∧
      ∀ D h' tk ys, Fr g L h' m → h'.get? D = some (LCg.lst ys) → g.get? D = none → D ≠ L → s.heap.get? D = none → J n ys h' → Q (.ref D) { s₂ with heap := h', toks := tk }) E s₁) E s)
    (hs : ∀ x, foldedSetIterable i1 env x = pure x := by intro _; rfl) :
    wpAny (model prog w) A (eval (.ListComp elt [⟨t1, i1, [], 0⟩, ⟨t2, i2, [], 0⟩] scope pos) env) Q E s := by
  rw [eval_ListComp]
  refine wpAny_comprehension_free (use := none) rfl hs hclos hkind hnames (wpAny_mono h (fun xv s₁ h₁ => wpAny_mono h₁ (fun it s₂ h₂ => ?_) fun _ _ e => e) fun _ _ e => e)
  refine hide (fun P9 toP9 => ?_)
  obtain ⟨n, J, stab, ⟨I, wr, St, Ex, rfl, F, hst, hHs, hwr, hLw, hgrow, j0, hJE, hC⟩, hQ⟩ := h₂
  (refine toP9 ?_; clear toP9 P9)
  refine wpAny_newObj_type (wpAny_newFunctionEnv hcell (by intro y hy; simp at hy) (fun h₁ hns₁ hsb₁ => ?_) hkind)
  dsimp only at hns₁ hsb₁ ⊢
  generalize hH2 : s₂.heap.push { cls := .type "list", dict := none, data := .seq ([] : List Value).toArray } = H2 at hns₁ hsb₁ ⊢
  have hCs : H2.objs.size = s₂.heap.objs.size + 1 := by rw [← hH2, Heap.size_push]
  have fresh : ∀ a, s₂.heap.objs.size ≤ a → s₂.heap.get? a = none := fun a ha => Heap.get?_none_of_le ha
  have fresh₀ : ∀ a, s₂.heap.objs.size ≤ a → g.get? a = none := fun a ha => by
    cases e : g.get? a with
    | none => rfl
    | some o' => have := F.keep a o' e; rw [fresh a ha] at this; cases this
  have hLlt : L < s₂.heap.objs.size := F.ns.lt
  have freshH : ∀ a, s₂.heap.objs.size ≤ a → s.heap.get? a = none := fun a ha => by
    cases e : s.heap.get? a with
    | none => rfl
    | some o' => exact absurd (fresh a ha) (hHs a o' e (fun q => absurd hLlt (Nat.not_lt.mpr (q ▸ ha))))
  have hDC : s₂.heap.objs.size ≠ H2.objs.size := by rw [hCs]; exact Nat.ne_of_lt (Nat.lt_succ_self _)
  have hLC : L ≠ H2.objs.size := by rw [hCs]; exact Nat.ne_of_lt (Nat.lt_succ_of_lt hLlt)
  have hLD : L ≠ s₂.heap.objs.size := Nat.ne_of_lt hLlt
  have hle : s₂.heap.objs.size ≤ H2.objs.size := by rw [hCs]; exact Nat.le_succ _
  have old : ∀ b o, s₂.heap.get? b = some o → h₁.get? b = some o := fun b o e => hsb₁.extBut b o (by rw [hCs]; exact Nat.ne_of_lt (Nat.lt_succ_of_lt (Heap.lt_size e))) (Heap.get?_push_of_some _ (hH2 ▸ Heap.get?_push_of_some _ e))
  have hacc : h₁.get? s₂.heap.objs.size = some (LCg.lst []) := hsb₁.extBut _ _ hDC (Heap.get?_push_of_some _ (hH2 ▸ Heap.get?_push_size _ rfl))
  refine hide (fun P9 toP9 => ?_)
  obtain ⟨B, W, step⟩ := hC H2.objs.size (fresh _ hle)
  (refine toP9 ?_; clear toP9 P9)
  have hst₁ : St 0 h₁ := hgrow _ _ hst old
  have loop : ∀ s₃ : Shared, s₃ = { s₂ with heap := h₁, toks := s₂.toks + ([] : List (Str × Value)).length } →
      codeAny (model prog w) A (.compLoop (.ListComp elt [⟨t1, i1, [], 0⟩, ⟨t2, i2, [], 0⟩] scope pos) 0 (.ref I) (.ref s₂.heap.objs.size) (compEnvC scope cl H2.objs.size env))
        (compPost (model prog w) A E none Q (.ref s₂.heap.objs.size) H2.objs.size) s₃ := by
    rintro s₃ rfl
    refine codeAny_comp2 (H₀ := s.heap) (cenv := compEnvC scope cl H2.objs.size env) W hDC hLC hLD (fresh₀ _ hle) (fresh₀ _ (Nat.le_refl _)) hwr (hfs _) hst₁ (F.keeps old) hns₁ hacc J (j0 h₁ old) hJE ?_ ?_ ?_
    · intro i ys h h' mC F' hC' hD' hJ k
      exact stab i ys ys h h' _ _ mC F' hC' hD' (freshH _ hle) (freshH _ (Nat.le_refl _)) hJ k
    · intro i h tk ys mC hi hB F' hC' hD' hJ
      exact step _ i h tk ys mC _ hi hB F' hC' hD' hDC hLC hLD (fresh₀ _ hle) (fresh₀ _ (Nat.le_refl _)) (freshH _ hle) (freshH _ (Nat.le_refl _)) hJ
    · intro h tk ys mC F' hC' hD' hJ
      exact ⟨mC, hC', fun h'' hs'' => hQ _ h'' tk ys (F'.change hs'' (Ne.symm hLC) (fresh₀ _ hle)) (hs''.extBut _ _ hDC hD') (fresh₀ _ (Nat.le_refl _)) (Ne.symm hLD) (freshH _ (Nat.le_refl _)) (stab n ys ys h h'' _ _ mC F' hC' hD' (freshH _ hle) (freshH _ (Nat.le_refl _)) hJ (fun b o e _ hb _ _ => hs''.extBut _ _ hb e))⟩
  exact codeAny_compStart_list (loop _ rfl) (W.self 0 _ _ _ hst₁ (loop _ rfl))
end
section
variable {prog : Program} {w : World} {A : Around} {E : Value → Shared → Prop} {s : Shared} {env : Env} {g : Heap} {L C D I tx : Addr} {m mC : Str → Option Value} {scope : Scope} {cl : List (Str × Addr)} {items ys : List Value} {x : Str} {p1 p2 : Pos} {t1 i1 i2 : PySem.Expr} {pos : Pos}
theorem nxt_tup1 (hh : A.handled = none) (hkind : scope.kind = .function) (hx : scope.names.lookup x = some .local)
    (ht : g.IsTuple tx items.toArray) (hI : g.get? I = none) (hIC : I ≠ C) (hCg : g.get? C = none) :
    Nxt prog w A g I (.Name x p1) (compEnvC scope cl C env) [I] items.length (fun i h => h.IsTupleIter I tx i ∧ ∀ b o, g.get? b = some o → h.get? b = some o)
      (fun i mC => ∃ v, items[i]? = some v ∧ mC x = some v) where
  item := fun i s K T P E mC hi st hC hK h => by
    have hv : items[i]? = some items[i] := by simp [hi]
    have htx : s.heap.IsTuple tx items.toArray := ht.at fun o e => st.2 _ _ e
    refine wpAny_bind (wpAny_pyNext_tuple_item st.1 htx (x := items[i]) (by simpa using hv) fun h₁ hit₁ hs₁ => ?_)
    rw [hK]
    have ne : ∀ {b o}, g.get? b = some o → b ≠ I := fun e q => by rw [q, hI] at e; cases e
    refine wpAny_bind (wpAny_pure (wpAny_bind (wpAny_assign_Name (wpAny_storeName_local (lookup_relabel_local hx) (hC.at' fun o e => hs₁.extBut _ o (Ne.symm hIC) e) (fun h₇ hn₇ hs₇ => ?_) (by simp [compEnvC, relabel, hkind])))))
    obtain ⟨oi, hoi, ri⟩ := hit₁
    exact h h₇ _ _ ⟨⟨oi, hs₇.extBut _ _ hIC hoi, ri⟩, fun b o e => hs₇.extBut b o (fun q => by rw [show b = C from q, hCg] at e; cases e) (hs₁.extBut _ _ (ne e) (st.2 _ _ e))⟩ hn₇ ⟨_, hv, by simp⟩
      fun b o e hb hw => hs₇.extBut b o hb (hs₁.extBut _ _ (by simpa using hw) e)
  done := fun s K P E st h => wpAny_bind (wpAny_pyNext_tuple_end hh st.1 (ht.at fun o e => st.2 _ _ e) (by simp) fun h' he => h h' s.toks fun b o e hb => he b o (by simpa using hb) e)
  flds := fun i h st b hb o e => by
    obtain ⟨o', ho', _, hd⟩ := st.1
    rw [List.mem_singleton.mp hb, ho'] at e; cases e
    unfold isFields; rw [hd]
  hold := fun i h h' st kt kg => by
    obtain ⟨o', ho', hc, hd⟩ := st.1
    exact ⟨⟨o', kt _ _ ho' (by unfold isFields; rw [hd]), hc, hd⟩, kg⟩
  offB := fun b hb => by rw [List.mem_singleton.mp hb]; exact hI
  self := fun i s Q E st hQ => wpAny_pyIter_tupleiter st.1 hQ
/-- the inner clause: the items of a tuple, each as it is -/
theorem comp_inner {R : Result → Shared → Prop} (hh : A.handled = none) (F : Fr g L s.heap m) (ht : g.IsTuple tx items.toArray) (hC : s.heap.Ns C mC) (hD : s.heap.get? D = some (LCg.lst ys))
    (hkind : scope.kind = .function) (hx : scope.names.lookup x = some .local) (hd : (x == ("__debug__" : Str)) = false)
    (n1 : D ≠ C) (n2 : L ≠ C) (n3 : L ≠ D) (g1 : g.get? C = none) (g2 : g.get? D = none) (hn : ys.length + items.length ≤ sizeLine)
    (K : ∀ h' mC' tk', Fr g L h' m → h'.Ns C mC' → h'.get? D = some (LCg.lst (ys ++ items)) → (∀ b o, s.heap.get? b = some o → b ≠ L → b ≠ C → b ≠ D → h'.get? b = some o) → R (.ok .next) { s with heap := h', toks := tk' }) :
    wpAny (model prog w) A (pyIter (.ref tx)) (fun it2 s₄ => codeAny (model prog w) A (.compStart (.ListComp (.Name x p2) [⟨t1, i1, [], 0⟩, ⟨.Name x p1, i2, [], 0⟩] scope pos) 1 it2 (.ref D) (compEnvC scope cl C env)) R s₄) E s := by
  refine wpAny_pyIter_tuple (ht.at fun o e => F.keep _ o e) ?_
  have up : ∀ b o, s.heap.get? b = some o → (s.heap.push { cls := .type "tuple_iterator", data := .fields #[.ref tx, .int 0 0] }).get? b = some o := fun b o e => Heap.get?_push_of_some _ e
  have z := Heap.get?_push_size s.heap (o := { cls := .type "tuple_iterator", data := .fields #[.ref tx, .int 0 0] }) rfl
  have hCI : s.heap.objs.size ≠ C := by
    obtain ⟨o', es, ep, e', _⟩ := hC
    exact fun q => absurd (Heap.lt_size e') (by rw [← q]; exact Nat.lt_irrefl _)
  have st0 : (s.heap.push { cls := .type "tuple_iterator", data := .fields #[.ref tx, .int 0 0] }).IsTupleIter s.heap.objs.size tx 0 ∧ ∀ b o, g.get? b = some o → (s.heap.push { cls := .type "tuple_iterator", data := .fields #[.ref tx, .int 0 0] }).get? b = some o :=
    ⟨⟨_, z, rfl, rfl⟩, fun b o e => up b o (F.keep b o e)⟩
  have W := nxt_tup1 (prog := prog) (w := w) (A := A) (env := env) (cl := cl) (p1 := p1) (C := C) hh hkind hx ht (no_new F) hCI g1
  have loop : ∀ s₃ : Shared, s₃ = { s with heap := s.heap.push { cls := .type "tuple_iterator", data := .fields #[.ref tx, .int 0 0] } } →
      codeAny (model prog w) A (.compLoop (.ListComp (.Name x p2) [⟨t1, i1, [], 0⟩, ⟨.Name x p1, i2, [], 0⟩] scope pos) 1 (.ref s.heap.objs.size) (.ref D) (compEnvC scope cl C env)) R s₃ := by
    rintro s₃ rfl
    refine codeAny_compG (L := L) (H₀ := s.heap) (cenv := compEnvC scope cl C env) (mC := mC) ys (compTurn_two1 _ _ _ _ _ _ _ _ _ _) W.toE n1 n2 n3 g1 g2 (fun b hb => by rw [List.mem_singleton.mp hb]; exact Heap.get?_none_of_le (Nat.le_refl _)) st0 (F.push _) (hC.at' fun o e => up _ _ e) (up _ _ hD) hn
      (fun i zs h => zs = ys ++ items.take i ∧ ∀ b o, s.heap.get? b = some o → b ≠ L → b ≠ C → b ≠ D → h.get? b = some o) ⟨by simp, fun b o e _ _ _ => up b o e⟩ (fun _ _ _ _ => trivial) ?_ ?_ ?_ ?_
    · exact fun i zs h h' mC' F' hC' hD' hJ k => ⟨hJ.1, fun b o e b1 b2 b3 => k b o (hJ.2 b o e b1 b2 b3) b1 b2 b3 (.inr e)⟩
    · exact fun i zs x' h h' mC' F' hC' hD' hJ k => ⟨hJ.1, fun b o e b1 b2 b3 => k b o (hJ.2 b o e b1 b2 b3) b3⟩
    · intro i h tk zs mC' hi hy hB F' hC' hD' hJ
      refine wpAny_tests_nil ?_
      simp only [if_true]
      obtain ⟨v, hv, hm⟩ := hB
      refine ldVarK hC' hm ⟨h, tk, mC', rfl, F', hC', hD', fun _ _ e _ => e, ?_, hJ.2⟩ (by simp [compEnvC, relabel, hkind]) (lookup_relabel_local hx) hd
      rw [List.take_add_one, hv, hJ.1]
      simp
    · intro h tk zs mC' _ F' hC' hD' hJ
      rw [List.take_length] at hJ
      exact K h mC' tk F' hC' (hJ.1 ▸ hD') hJ.2
  exact codeAny_compStart1 (loop _ rfl) (W.self 0 _ _ _ st0 (loop _ rfl))
/-- the outer clause: a list of figures that was made -/
theorem comp2_list {l : Addr} {J : Nat → List Value → Heap → Prop} {elt t2 : PySem.Expr} {Hs : Heap} (hh : A.handled = none) (F : Fr g L s.heap m) (hHs : ∀ b o, Hs.get? b = some o → b ≠ L → s.heap.get? b ≠ none)
    (hkind : scope.kind = .function) (hx : scope.names.lookup x = some .local) (hl : s.heap.IsList l items.toArray) (j0 : ∀ h', (∀ b o, s.heap.get? b = some o → h'.get? b = some o) → J 0 [] h') (hJE : ∀ i ys h, J i ys h → h.IsList l items.toArray)
    (el : ∀ C D i h tk ys mC (R : Value → Shared → Prop), (∃ v, items[i]? = some v ∧ mC x = some v) → Fr g L h m → h.Ns C mC → h.get? D = some (LCg.lst ys) → D ≠ C → L ≠ C → L ≠ D → g.get? C = none → g.get? D = none → Hs.get? C = none → Hs.get? D = none → J i ys h →
        wpAny (model prog w) A (eval i2 (compEnvC scope cl C env)) (fun xv s₃ => wpAny (model prog w) A (pyIter xv) (fun it2 s₄ => codeAny (model prog w) A (.compStart (.ListComp elt [⟨.Name x p1, i1, [], 0⟩, ⟨t2, i2, [], 0⟩] scope pos) 1 it2 (.ref D) (compEnvC scope cl C env))
          (fun r s' => match r with | .ok _ => Turn2 g L m C D h s (J (i + 1)) s' | .error e => cameBackBy (model prog w) A (compEnvC scope cl C env) R e s') s₄) R s₃) R { s with heap := h, toks := tk }) :
    Comp2 prog w A g L env scope cl elt (.Name x p1) i1 t2 i2 pos m Hs items.length J (.ref s.heap.objs.size) { s with heap := s.heap.push { cls := .type "list_iterator", data := .fields #[.ref l, .int 0 0] } } := by
  have up : ∀ b o, s.heap.get? b = some o → (s.heap.push { cls := .type "list_iterator", data := .fields #[.ref l, .int 0 0] }).get? b = some o := fun b o e => Heap.get?_push_of_some _ e
  have z := Heap.get?_push_size s.heap (o := { cls := .type "list_iterator", data := .fields #[.ref l, .int 0 0] }) rfl
  have hLlt : L < s.heap.objs.size := F.ns.lt
  refine ⟨s.heap.objs.size, [s.heap.objs.size], _, _, rfl, F.push _, ⟨⟨_, z, rfl, rfl⟩, hl.at fun o e => up _ _ e⟩, ?keep, fun b hb => ?off,
    fun q => absurd F.ns.lt (by rw [List.mem_singleton.mp q]; exact Nat.lt_irrefl _), ?grow, fun h' k => j0 h' fun b o e => k b o (up b o e), hJE, fun C hC => ⟨_, nxtE_list hh hkind hx (no_new F) (fun q => ?ne), ?_⟩⟩
  case keep =>
    intro b o e hb q
    cases e' : s.heap.get? b with
    | none => exact hHs b o e hb e'
    | some o' =>
      have q' : (s.heap.push { cls := .type "list_iterator", data := .fields #[.ref l, .int 0 0] }).get? b = none := q
      rw [up b o' e'] at q'; cases q'
  case off =>
    rw [List.mem_singleton.mp hb]
    cases e : Hs.get? s.heap.objs.size with
    | none => rfl
    | some o => exact absurd (Heap.get?_none_of_le (Nat.le_refl _)) (hHs _ o e (fun q => absurd hLlt (by rw [q]; exact Nat.lt_irrefl _)))
  case grow => exact fun h h' st k => ⟨let ⟨o, e, r⟩ := st.1; ⟨o, k _ _ e, r⟩, st.2.at fun o e => k _ _ e⟩
  case ne =>
    have hC' : (s.heap.push { cls := .type "list_iterator", data := .fields #[.ref l, .int 0 0] }).get? C = none := hC
    rw [q, hC'] at z; cases z
  · intro D i h tk ys mC R hi hB F' hC' hD' n1 n2 n3 n4 n5 hC₀ hD₀ hJ
    exact el C D i h tk ys mC R hB F' hC' hD' n1 n2 n3 n4 n5 hC₀ hD₀ hJ
end
/-- points of a block from one on -/
def rpts (b a t : Nat) : List (Int × Int) := (List.range t).map fun (u : Nat) => ((b : Int), (a : Int) + (u : Int))
theorem rpts_succ (b a t : Nat) : rpts b a (t + 1) = rpts b a t ++ [((b : Int), (a : Int) + (t : Int))] := by simp [rpts, List.range_succ]
theorem rpts_len (b a t : Nat) : (rpts b a t).length = t := by simp [rpts]
theorem rpts_rev {b n j : Nat} (h : j ≤ n) : (rpts b j (n + 1 - j)).reverse = dpts b n (n + 1 - j) := by
  apply List.ext_getElem
  · simp [rpts, dpts]
  · intro i h1 h2
    simp only [rpts, dpts, List.length_reverse, List.length_map, List.length_range] at h1 h2
    simp only [rpts, dpts, List.getElem_reverse, List.getElem_map, List.getElem_range, List.length_map, List.length_range]
    congr 1
    omega
def bbB (b : Nat) (ps : List (Int × Int)) (n t : Nat) : List ((Int × Int) × List (Int × Int)) := (List.range t).map fun (i : Nat) => (((b : Int), (i : Int)), ps ++ dpts b n (n + 1 - i))
def bbR (ps : List (Int × Int)) (cs : List Nat) (ggs : List (List Int)) (fs : List (List (Int × Int))) (b : Nat) : List ((Int × Int) × List (Int × Int)) := bbB b (ps ++ joinE fs (uniq (ggs.getD b []))) (cs.getD b 0) (cs.getD b 0 + 1)
def bbE (ps : List (Int × Int)) (cs : List Nat) (ggs : List (List Int)) (fs : List (List (Int × Int))) (k : Nat) : List ((Int × Int) × List (Int × Int)) := (List.range k).flatMap (bbR ps cs ggs fs)
theorem bbB_succ (b : Nat) (ps) (n t : Nat) : bbB b ps n (t + 1) = bbB b ps n t ++ [(((b : Int), (t : Int)), ps ++ dpts b n (n + 1 - t))] := by simp [bbB, List.range_succ]
theorem bbB_len (b ps n t) : (bbB b ps n t).length = t := by simp [bbB]
theorem bbE_succ (ps cs ggs fs k) : bbE ps cs ggs fs (k + 1) = bbE ps cs ggs fs k ++ bbR ps cs ggs fs k := by simp [bbE, List.range_succ]
theorem bbB_keys {b : Nat} {ps} {n t : Nat} {p : Int × Int} (h : p ∈ (bbB b ps n t).map Prod.fst) : p.1 = b ∧ p.2 < t := by
  simp only [bbB, List.map_map, List.mem_map, List.mem_range] at h
  obtain ⟨i, hi, rfl⟩ := h
  exact ⟨rfl, by simpa using hi⟩
theorem bbE_keys {ps cs ggs fs} {k : Nat} {p : Int × Int} (h : p ∈ (bbE ps cs ggs fs k).map Prod.fst) : p.1 < k := by
  simp only [bbE, List.map_flatMap, List.mem_flatMap, List.mem_range] at h
  obtain ⟨b, hb, h⟩ := h
  have := (bbB_keys h).1; omega
theorem bbE_fresh {ps cs ggs fs} {k n t : Nat} {qs} : ((k : Int), (t : Int)) ∉ (bbE ps cs ggs fs k ++ bbB k qs n t).map Prod.fst := by
  rw [List.map_append, List.mem_append]
  rintro (h | h)
  · have := bbE_keys h; simp at this
  · have := (bbB_keys h).2
    have h2 : (t : Int) < t := this
    omega
theorem bbE_len {ps} {cs : List Nat} {ggs fs} (hc : ∀ c ∈ cs, c ≤ 3) : ∀ k, (bbE ps cs ggs fs k).length ≤ 4 * k
  | 0 => by simp [bbE]
  | k + 1 => by
    rw [bbE_succ, List.length_append]
    have h1 := bbE_len (ps := ps) (ggs := ggs) (fs := fs) hc k
    have h2 : cs.getD k 0 ≤ 3 := by
      rw [List.getD_eq_getElem?_getD]
      cases e : cs[k]? with
      | none => simp
      | some c => exact hc c (List.mem_of_getElem? e)
    unfold bbR
    rw [bbB_len]; omega
theorem bf_bb_len (ps cs ggs fs) : ∀ k, (bfE ps cs ggs fs k).length = (bbE ps cs ggs fs k).length
  | 0 => by simp [bfE, bbE]
  | k + 1 => by rw [bfE_succ, bbE_succ, List.length_append, List.length_append, bf_bb_len ps cs ggs fs k, bfR, bbR, bfB_len, bbB_len]
theorem bf_bb_mem {ps cs ggs fs} {k : Nat} {x} (h : x ∈ bfE ps cs ggs fs k) : x ∈ bbE ps cs ggs fs k := by
  simp only [bfE, List.mem_flatMap, List.mem_range] at h
  obtain ⟨b, hb, h⟩ := h
  simp only [bbE, List.mem_flatMap, List.mem_range]
  refine ⟨b, hb, ?_⟩
  simp only [bfR, bfB, List.mem_map, List.mem_range] at h
  obtain ⟨u, hu, rfl⟩ := h
  simp only [bbR, bbB, List.mem_map, List.mem_range]
  refine ⟨cs.getD b 0 - u, by omega, ?_⟩
  have e1 : cs.getD b 0 + 1 - (cs.getD b 0 - u) = u + 1 := by omega
  have e2 : ((cs.getD b 0 - u : Nat) : Int) = (cs.getD b 0 : Int) - (u : Int) := by omega
  rw [e1, e2]
/-- the goals of each block, as they were told -/
def GoalsAt (h : Heap) (gvs : List Value) (ggs : List (List Int)) (n : Nat) : Prop := gvs.length = ggs.length ∧ ∀ (i : Nat) (v : Value), gvs[i]? = some v → ∃ gl gs vs, v = .ref gl ∧ h.IsList gl (List.toArray vs) ∧ IntsAre vs gs ∧ ggs[i]? = some gs ∧ gs.length ≤ 3 ∧ ∀ g ∈ gs, 0 ≤ g ∧ g < n
theorem GoalsAt.mono {h h' : Heap} (k : ∀ b o, h.get? b = some o → h'.get? b = some o) {gvs : List Value} {ggs n} (x : GoalsAt h gvs ggs n) : GoalsAt h' gvs ggs n :=
  ⟨x.1, fun i v e => let ⟨gl, gs, vs, a, b, c⟩ := x.2 i v e; ⟨gl, gs, vs, a, b.at (k _), c⟩⟩
section
variable {w : World} {mean : ExcName → Option Value} {mg mb : Str → Option Value} {g : Heap} {L : Addr} {m : Str → Option Value} {news : List (Addr × Obj)} {s : Shared} {dp un : Nat} {gd : Option (List Code)} {fr : Option (List Env)} {Q E : Value → Shared → Prop}
theorem unlike_use {l : Addr} {vs : List Value} {gs : List Int} (F : Fr g L s.heap m) (X : (Mine.hd.heap_1 w.params).In g) (T : Top Mine.vw (looseW Mine.vw []) mean mg mb g) (N : News g L s.heap news)
    (hd : dp + 1 < recursionLimit) (hu : un + 100 < cLine) (hl : g.IsList l vs.toArray) (hi : IntsAre vs gs) (h3 : vs.length ≤ 3)
    (ret : ∀ r vs h' tk', (∀ b o, s.heap.get? b = some o → h'.get? b = some o) → Fr g L h' m → News g L h' news → h'.IsList r (List.toArray vs) → IntsAre vs (uniq gs) → Q (.ref r) { s with heap := h', toks := tk' }) :
    wpAny (model PySem.Challenge.pw_xm0585_01 w) (arnd dp un gd fr) (call (.ref 206) [.ref l]) Q E s :=
  unlike_ok X T F.keep hd hu (F.lst hl) hi h3 fun r vs h' tk' k hv hi => ret r vs h' tk' k ⟨F.ns.keeps k, fun b o e => k b o (F.keep b o e), F.above⟩ (N.keeps k) hv hi
end
theorem news_cons {g h : Heap} {L : Addr} {D : List (Addr × Obj)} {p : Addr × Obj} (hp : h.get? p.1 = some p.2 ∧ p.1 ≠ L ∧ g.get? p.1 = none) (N : News g L h D) : News g L h (p :: D) := fun q hq => (List.mem_cons.mp hq).elim (fun e => e ▸ hp) (N q)
theorem keepIt_C {g h h' : Heap} {L C D : Addr} {m mC : Str → Option Value} {ys : List Value} (F : Fr g L h m) (hC : h.Ns C mC) (hD : h.get? D = some (LCg.lst ys)) (k : ∀ b o, h.get? b = some o → b ≠ L → b ≠ C → b ≠ D → h'.get? b = some o) : KeepIt h h' := fun b o e hf =>
  k b o e (fun q => by rw [ns_fields F o (q ▸ e)] at hf; cases hf) (fun q => by rw [ns_not_fields hC o (q ▸ e)] at hf; cases hf) (fun q => by rw [q, hD] at e; cases e; cases hf)
theorem small_from {n j : Nat} (h : n ≤ 5) (h2 : j ≤ n) : Builtin.Range.small (j : Int) (n : Int) 1 = true := (show ∀ n, n < 6 → ∀ j, j < n + 1 → Builtin.Range.small ((j : Nat) : Int) ((n : Nat) : Int) 1 = true by decide) n (by omega) j (by omega)
theorem size_from {n j : Nat} (h : n ≤ 5) (h2 : j ≤ n) : Builtin.Range.rangeSize (j : Int) (n : Int) 1 = ((n - j : Nat) : Int) := (show ∀ n, n < 6 → ∀ j, j < n + 1 → Builtin.Range.rangeSize ((j : Nat) : Int) ((n : Nat) : Int) 1 = ((n - j : Nat) : Int) by decide) n (by omega) j (by omega)
theorem PairsL.rev {h : Heap} {vs : List Value} {ps : List (Int × Int)} (x : PairsL h vs ps) : PairsL h vs.reverse ps.reverse := by
  induction x with
  | nil => exact .nil
  | cons e _ ih => rw [List.reverse_cons, List.reverse_cons]; exact ih.append (.cons e .nil)
theorem lst_set {prog : Program} {w : World} {h h' : Heap} {d a : Addr} {es} {ys : List Value} (hD : DAt prog w h d es) (hs : Heap.SameBut d h h') (e : h.get? a = some (LCg.lst ys)) : h'.get? a = some (LCg.lst ys) := by
  obtain ⟨_, xs, ⟨o', ee, ep, ho, _, hd', _⟩, _⟩ := hD
  refine hs.extBut _ _ (fun q => ?_) e
  subst q
  rw [ho] at e; cases e
  cases hd'
theorem pairsL_set {prog : Program} {w : World} {h h' : Heap} {d : Addr} {es} {vs : List Value} {ps : List (Int × Int)} (hD : DAt prog w h d es) (hs : Heap.SameBut d h h') (x : PairsL h vs ps) : PairsL h' vs ps := by
  obtain ⟨_, xs, ⟨o', ee, ep, ho, _, hd', _⟩, _⟩ := hD
  induction x with
  | nil => exact .nil
  | cons e _ ih =>
    exact .cons (let ⟨oa, hoa, hc, n, hda⟩ := e; ⟨oa, hs.extBut _ _ (fun q => by subst q; rw [ho] at hoa; cases hoa; rw [hd'] at hda; cases hda) hoa, hc, n, hda⟩) ih
section
variable {prog : Program} {w : World} {A : Around} {E : Value → Shared → Prop} {s : Shared} {env : Env} {g : Heap} {L : Addr}
theorem comp_Eg {elt iter target : PySem.Expr} {ifs : List PySem.Expr} {scope : Scope} {cl : List (Str × Addr)} {pos : Pos} {Q : Value → Shared → Prop} {m : Str → Option Value} {use : Option (Value → Sem Unit)} {npos : Pos} (Hs : Heap)
    (hclos : closureFor scope env = pure cl) (hcell : ∀ y ∈ scope.names, y.2 ≠ .cell) (hkind : scope.kind = .function)
    (hnames : ∀ y ∈ scope.names, y.2 = .local → scope.names.lookup y.1 = some .local)
    (h : wpAny (model prog w) A (eval iter env) (fun xv s₁ => wpAny (model prog w) A (pyIter xv) (fun it s₂ => ∃ (n : Nat) (J : Nat → List Value → Heap → Prop), (∀ i ys zs h h' C D mC, Fr g L h m → h.Ns C mC → h.get? D = some (LCg.lst zs) → Hs.get? C = none → Hs.get? D = none → J i ys h → KeepC Hs L C D h h' → J i ys h') ∧ CompE prog w A g L env scope cl target elt ifs m Hs n J it s₂ ∧
      ∀ D C h' tk ys mC, ys.length ≤ n → Fr g L h' m → h'.Ns C mC → h'.get? D = some (LCg.lst ys) → D ≠ C → L ≠ C → L ≠ D → g.get? C = none → g.get? D = none → Hs.get? C = none → Hs.get? D = none → J n ys h' → compPost (model prog w) A E use Q (.ref D) C (.ok .next) { s₂ with heap := h', toks := tk }) E s₁) E s)
    (hs : ∀ x, foldedSetIterable iter env x = pure x := by intro _; rfl) :
    wpAny (model prog w) A (comprehension (.ListComp elt [⟨target, iter, ifs, 0⟩] scope pos) scope env npos (newList []) false (eval iter env) use) Q E s := by
  refine wpAny_comprehension_free (use := use) rfl hs hclos hkind hnames (wpAny_mono h (fun xv s₁ h₁ => wpAny_mono h₁ (fun it s₂ h₂ => ?_) fun _ _ e => e) fun _ _ e => e)
  refine hide (fun P9 toP9 => ?_)
  obtain ⟨n, J, stab, ⟨I, wr, St, Ex, rfl, F, hst, hHs, hwr, hLw, hgrow, hn, j0, hJE, hC⟩, hQ⟩ := h₂
  (refine toP9 ?_; clear toP9 P9)
  refine wpAny_newObj_type (wpAny_newFunctionEnv hcell (by intro y hy; simp at hy) (fun h₁ hns₁ hsb₁ => ?_) hkind)
  dsimp only at hns₁ hsb₁ ⊢
  generalize hH2 : s₂.heap.push { cls := .type "list", dict := none, data := .seq ([] : List Value).toArray } = H2 at hns₁ hsb₁ ⊢
  have hCs : H2.objs.size = s₂.heap.objs.size + 1 := by rw [← hH2, Heap.size_push]
  have fresh : ∀ a, s₂.heap.objs.size ≤ a → s₂.heap.get? a = none := fun a ha => Heap.get?_none_of_le ha
  have fresh₀ : ∀ a, s₂.heap.objs.size ≤ a → g.get? a = none := fun a ha => by
    cases e : g.get? a with
    | none => rfl
    | some o' => have := F.keep a o' e; rw [fresh a ha] at this; cases this
  have hLlt : L < s₂.heap.objs.size := F.ns.lt
  have freshH : ∀ a, s₂.heap.objs.size ≤ a → Hs.get? a = none := fun a ha => by
    cases e : Hs.get? a with
    | none => rfl
    | some o' => exact absurd (fresh a ha) (hHs a o' e (fun q => absurd hLlt (Nat.not_lt.mpr (q ▸ ha))))
  have hDC : s₂.heap.objs.size ≠ H2.objs.size := by rw [hCs]; exact Nat.ne_of_lt (Nat.lt_succ_self _)
  have hLC : L ≠ H2.objs.size := by rw [hCs]; exact Nat.ne_of_lt (Nat.lt_succ_of_lt hLlt)
  have hLD : L ≠ s₂.heap.objs.size := Nat.ne_of_lt hLlt
  have hle : s₂.heap.objs.size ≤ H2.objs.size := by rw [hCs]; exact Nat.le_succ _
  have old : ∀ b o, s₂.heap.get? b = some o → h₁.get? b = some o := fun b o e => hsb₁.extBut b o (by rw [hCs]; exact Nat.ne_of_lt (Nat.lt_succ_of_lt (Heap.lt_size e))) (Heap.get?_push_of_some _ (hH2 ▸ Heap.get?_push_of_some _ e))
  have hacc : h₁.get? s₂.heap.objs.size = some (LCg.lst []) := hsb₁.extBut _ _ hDC (Heap.get?_push_of_some _ (hH2 ▸ Heap.get?_push_size _ rfl))
  refine hide (fun P9 toP9 => ?_)
  obtain ⟨B, W, step⟩ := hC H2.objs.size (fresh _ hle)
  (refine toP9 ?_; clear toP9 P9)
  have hst₁ : St 0 h₁ := hgrow _ _ hst old
  have loop : ∀ s₃ : Shared, s₃ = { s₂ with heap := h₁, toks := s₂.toks + ([] : List (Str × Value)).length } →
      codeAny (model prog w) A (.compLoop (.ListComp elt [⟨target, iter, ifs, 0⟩] scope pos) 0 (.ref I) (.ref s₂.heap.objs.size) (compEnvC scope cl H2.objs.size env))
        (compPost (model prog w) A E use Q (.ref s₂.heap.objs.size) H2.objs.size) s₃ := by
    rintro s₃ rfl
    refine codeAny_compG (H₀ := Hs) (cenv := compEnvC scope cl H2.objs.size env) [] (compTurn_list _ _ _ _ _ _ _ _ _) W hDC hLC hLD (fresh₀ _ hle) (fresh₀ _ (Nat.le_refl _)) hwr hst₁ (F.keeps old) hns₁ hacc (by simpa using hn) J (j0 h₁ old) hJE ?_ ?_ ?_ ?_
    · intro i ys h h' mC F' hC' hD' hJ k
      exact stab i ys ys h h' _ _ mC F' hC' hD' (freshH _ hle) (freshH _ (Nat.le_refl _)) hJ k
    · intro i ys x h h' mC F' hC' hD' hJ k
      exact stab i _ ys h h' _ _ mC F' hC' hD' (freshH _ hle) (freshH _ (Nat.le_refl _)) hJ (fun b o e _ _ hb _ => k b o e hb)
    · intro i h tk ys mC hi hy hB F' hC' hD' hJ
      exact step _ i h tk ys mC _ hi (by simpa using hy) hB F' hC' hD' hDC hLC hLD (fresh₀ _ hle) (fresh₀ _ (Nat.le_refl _)) (freshH _ hle) (freshH _ (Nat.le_refl _)) hJ
    · intro h tk ys mC hyl F' hC' hD' hJ
      exact hQ _ _ h tk ys mC (by simpa using hyl) F' hC' hD' hDC hLC hLD (fresh₀ _ hle) (fresh₀ _ (Nat.le_refl _)) (freshH _ hle) (freshH _ (Nat.le_refl _)) hJ
  exact codeAny_compStart_list (loop _ rfl) (W.self 0 _ _ _ hst₁ (loop _ rfl))
theorem comp_2g {elt t1 i1 t2 i2 : PySem.Expr} {scope : Scope} {cl : List (Str × Addr)} {pos : Pos} {Q : Value → Shared → Prop} {m : Str → Option Value} {use : Option (Value → Sem Unit)} {npos : Pos}
    (hclos : closureFor scope env = pure cl) (hcell : ∀ y ∈ scope.names, y.2 ≠ .cell) (hkind : scope.kind = .function)
    (hnames : ∀ y ∈ scope.names, y.2 = .local → scope.names.lookup y.1 = some .local) (hfs : ∀ C x, foldedSetIterable i2 (compEnvC scope cl C env) x = pure x)
    (h : wpAny (model prog w) A (eval i1 env) (fun xv s₁ => wpAny (model prog w) A (pyIter xv) (fun it s₂ => ∃ (n : Nat) (J : Nat → List Value → Heap → Prop), (∀ i ys zs h h' C D mC, Fr g L h m → h.Ns C mC → h.get? D = some (LCg.lst zs) → s₁.heap.get? C = none → s₁.heap.get? D = none → J i ys h → KeepC s₁.heap L C D h h' → J i ys h') ∧ Comp2 prog w A g L env scope cl elt t1 i1 t2 i2 pos m s₁.heap n J it s₂ ∧
      ∀ D C h' tk ys mC, Fr g L h' m → h'.Ns C mC → h'.get? D = some (LCg.lst ys) → D ≠ C → L ≠ C → L ≠ D → g.get? C = none → g.get? D = none → s₁.heap.get? C = none → s₁.heap.get? D = none → J n ys h' → compPost (model prog w) A E use Q (.ref D) C (.ok .next) { s₂ with heap := h', toks := tk }) E s₁) E s)
    (hs : ∀ x, foldedSetIterable i1 env x = pure x := by intro _; rfl) :
    wpAny (model prog w) A (comprehension (.ListComp elt [⟨t1, i1, [], 0⟩, ⟨t2, i2, [], 0⟩] scope pos) scope env npos (newList []) false (eval i1 env) use) Q E s := by
  refine wpAny_comprehension_free (use := use) rfl hs hclos hkind hnames (wpAny_mono h (fun xv s₁ h₁ => wpAny_mono h₁ (fun it s₂ h₂ => ?_) fun _ _ e => e) fun _ _ e => e)
  refine hide (fun P9 toP9 => ?_)
  obtain ⟨n, J, stab, ⟨I, wr, St, Ex, rfl, F, hst, hHs, hwr, hLw, hgrow, j0, hJE, hC⟩, hQ⟩ := h₂
  (refine toP9 ?_; clear toP9 P9)
  refine wpAny_newObj_type (wpAny_newFunctionEnv hcell (by intro y hy; simp at hy) (fun h₁ hns₁ hsb₁ => ?_) hkind)
  dsimp only at hns₁ hsb₁ ⊢
  generalize hH2 : s₂.heap.push { cls := .type "list", dict := none, data := .seq ([] : List Value).toArray } = H2 at hns₁ hsb₁ ⊢
  have hCs : H2.objs.size = s₂.heap.objs.size + 1 := by rw [← hH2, Heap.size_push]
  have fresh : ∀ a, s₂.heap.objs.size ≤ a → s₂.heap.get? a = none := fun a ha => Heap.get?_none_of_le ha
  have fresh₀ : ∀ a, s₂.heap.objs.size ≤ a → g.get? a = none := fun a ha => by
    cases e : g.get? a with
    | none => rfl
    | some o' => have := F.keep a o' e; rw [fresh a ha] at this; cases this
  have hLlt : L < s₂.heap.objs.size := F.ns.lt
  have freshH : ∀ a, s₂.heap.objs.size ≤ a → s₁.heap.get? a = none := fun a ha => by
    cases e : s₁.heap.get? a with
    | none => rfl
    | some o' => exact absurd (fresh a ha) (hHs a o' e (fun q => absurd hLlt (Nat.not_lt.mpr (q ▸ ha))))
  have hDC : s₂.heap.objs.size ≠ H2.objs.size := by rw [hCs]; exact Nat.ne_of_lt (Nat.lt_succ_self _)
  have hLC : L ≠ H2.objs.size := by rw [hCs]; exact Nat.ne_of_lt (Nat.lt_succ_of_lt hLlt)
  have hLD : L ≠ s₂.heap.objs.size := Nat.ne_of_lt hLlt
  have hle : s₂.heap.objs.size ≤ H2.objs.size := by rw [hCs]; exact Nat.le_succ _
  have old : ∀ b o, s₂.heap.get? b = some o → h₁.get? b = some o := fun b o e => hsb₁.extBut b o (by rw [hCs]; exact Nat.ne_of_lt (Nat.lt_succ_of_lt (Heap.lt_size e))) (Heap.get?_push_of_some _ (hH2 ▸ Heap.get?_push_of_some _ e))
  have hacc : h₁.get? s₂.heap.objs.size = some (LCg.lst []) := hsb₁.extBut _ _ hDC (Heap.get?_push_of_some _ (hH2 ▸ Heap.get?_push_size _ rfl))
  refine hide (fun P9 toP9 => ?_)
  obtain ⟨B, W, step⟩ := hC H2.objs.size (fresh _ hle)
  (refine toP9 ?_; clear toP9 P9)
  have hst₁ : St 0 h₁ := hgrow _ _ hst old
  have loop : ∀ s₃ : Shared, s₃ = { s₂ with heap := h₁, toks := s₂.toks + ([] : List (Str × Value)).length } →
      codeAny (model prog w) A (.compLoop (.ListComp elt [⟨t1, i1, [], 0⟩, ⟨t2, i2, [], 0⟩] scope pos) 0 (.ref I) (.ref s₂.heap.objs.size) (compEnvC scope cl H2.objs.size env))
        (compPost (model prog w) A E use Q (.ref s₂.heap.objs.size) H2.objs.size) s₃ := by
    rintro s₃ rfl
    refine codeAny_comp2 (H₀ := s₁.heap) (cenv := compEnvC scope cl H2.objs.size env) W hDC hLC hLD (fresh₀ _ hle) (fresh₀ _ (Nat.le_refl _)) hwr (hfs _) hst₁ (F.keeps old) hns₁ hacc J (j0 h₁ old) hJE ?_ ?_ ?_
    · intro i ys h h' mC F' hC' hD' hJ k
      exact stab i ys ys h h' _ _ mC F' hC' hD' (freshH _ hle) (freshH _ (Nat.le_refl _)) hJ k
    · intro i h tk ys mC hi hB F' hC' hD' hJ
      exact step _ i h tk ys mC _ hi hB F' hC' hD' hDC hLC hLD (fresh₀ _ hle) (fresh₀ _ (Nat.le_refl _)) (freshH _ hle) (freshH _ (Nat.le_refl _)) hJ
    · intro h tk ys mC F' hC' hD' hJ
      exact hQ _ _ h tk ys mC F' hC' hD' hDC hLC hLD (fresh₀ _ hle) (fresh₀ _ (Nat.le_refl _)) (freshH _ hle) (freshH _ (Nat.le_refl _)) hJ
  exact codeAny_compStart_list (loop _ rfl) (W.self 0 _ _ _ hst₁ (loop _ rfl))
theorem assign_fin {y : Str} {py : Pos} {Q : Flow → Shared → Prop} {C D : Addr} {h' : Heap} {tk : Nat} {ys : List Value} {m mC : Str → Option Value} {Hs : Heap} {J : List Value → Heap → Prop} (hy : env.kindOf y = some .local) (hp : (env.scope.kind == .class || (env.scope.kind == .module && env.locals != env.globals)) = false)
    (F' : Fr g env.locals h' m) (hC : h'.Ns C mC) (hD : h'.get? D = some (LCg.lst ys)) (n1 : D ≠ C) (n2 : env.locals ≠ C) (n3 : env.locals ≠ D) (g1 : g.get? C = none) (stab : ∀ h'', KeepC Hs env.locals C D h' h'' → J ys h'') 
    (hQ : ∀ h'' tk', Fr g env.locals h'' (fun z => if z = y then some (.ref D) else m z) → h''.get? D = some (LCg.lst ys) → J ys h'' → Q .next { s with heap := h'', toks := tk' }) :
    compPost (model prog w) A E (some (assign (.Name y py) env)) (fun _ s' => Q .next s') (.ref D) C (.ok .next) { s with heap := h', toks := tk } := by
  show wpAny _ A (assign (.Name y py) env (.ref D)) _ _ _
  refine wpAny_assign_Name (wpAny_storeName_local hy F'.ns (fun h₂ hn₂ hs₂ => ?_) hp)
  replace hs₂ : Heap.SameBut env.locals h' h₂ := hs₂
  have F₂ := F'.set hn₂ hs₂
  refine ⟨mC, hC.sameBut hs₂ (Ne.symm n2), fun h'' hs'' => hQ h'' _ (F₂.change hs'' (Ne.symm n2) g1) (hs''.extBut _ _ n1 (hs₂.extBut _ _ (Ne.symm n3) hD)) (stab h'' fun b o e b1 b2 _ _ => hs''.extBut _ _ b2 (hs₂.extBut _ _ b1 e))⟩
theorem Assign_Comp_E {elt iter target : PySem.Expr} {ifs : List PySem.Expr} {scope : Scope} {cl : List (Str × Addr)} {pos spos py : Pos} {y : Str} {Q : Flow → Shared → Prop} {m : Str → Option Value} (F : Fr g env.locals s.heap m) (J : Heap → Nat → List Value → Heap → Prop)
    (stab : ∀ i ys zs h h' C D mC, Fr g env.locals h m → h.Ns C mC → h.get? D = some (LCg.lst zs) → s.heap.get? C = none → s.heap.get? D = none → J s.heap i ys h → KeepC s.heap env.locals C D h h' → J s.heap i ys h')
    (hsw : swapsWith (.ListComp elt [⟨target, iter, ifs, 0⟩] scope pos) (some (.Name y py)) spos.line env = pure true)
    (hclos : closureFor scope env = pure cl) (hcell : ∀ y ∈ scope.names, y.2 ≠ .cell) (hkind : scope.kind = .function)
    (hnames : ∀ y ∈ scope.names, y.2 = .local → scope.names.lookup y.1 = some .local)
    (hy : env.kindOf y = some .local) (hp : (env.scope.kind == .class || (env.scope.kind == .module && env.locals != env.globals)) = false)
    (h : wpAny (model prog w) A (eval iter env) (fun xv s₁ => wpAny (model prog w) A (pyIter xv) (fun it s₂ => ∃ n, CompE prog w A g env.locals env scope cl target elt ifs m s.heap n (J s.heap) it s₂ ∧
      ∀ D h' tk ys, ys.length ≤ n → Fr g env.locals h' (fun z => if z = y then some (.ref D) else m z) → h'.get? D = some (LCg.lst ys) → g.get? D = none → D ≠ env.locals → s.heap.get? D = none → J s.heap n ys h' → Q .next { s₂ with heap := h', toks := tk }) E s₁) E s)
    (hs : ∀ x, foldedSetIterable iter env x = pure x := by intro _; rfl) :
    wpAny (model prog w) A (exec (.Assign [.Name y py] (.ListComp elt [⟨target, iter, ifs, 0⟩] scope pos) spos) env) Q E s := by
  rw [exec_Assign_Name_used _ _ _ _ hsw]
  refine wpAny_bind (wpAny_standAt (wpAny_bind ?_))
  show wpAny _ A (do let _ ← comprehension (.ListComp elt [⟨target, iter, ifs, 0⟩] scope pos) scope env _ (newList []) false (eval iter env) (some (assign (.Name y py) env))) _ _ s
  refine wpAny_bind (wpAny_mono (comp_Eg (g := g) (L := env.locals) (m := m) (use := some (assign (.Name y py) env)) (Q := fun _ s' => Q .next s') s.heap hclos hcell hkind hnames
    (wpAny_mono h (fun xv s₁ h₁ => wpAny_mono h₁ (fun it s₂ h₂ => ?_) fun _ _ e => e) fun _ _ e => e) hs) (fun _ s' hq => wpAny_pure (wpAny_pure hq)) fun _ _ e => e)
  refine hide (fun P9 toP9 => ?_)
  obtain ⟨n, hC, hQ⟩ := h₂
  (refine toP9 ?_; clear toP9 P9)
  exact ⟨n, J s.heap, stab, hC, fun D C h' tk ys mC hl F' hC' hD n1 n2 n3 g1 g2 H1 H2 hJ => assign_fin (Hs := s.heap) (J := J s.heap n) hy hp F' hC' hD n1 n2 n3 g1 (fun h'' kc => stab n ys ys h' h'' C D mC F' hC' hD H1 H2 hJ kc) fun h'' tk' F'' hD'' hJ'' => hQ D h'' tk' ys hl F'' hD'' g2 (Ne.symm n3) H2 hJ''⟩
theorem Assign_Comp_2 {elt t1 i1 t2 i2 : PySem.Expr} {scope : Scope} {cl : List (Str × Addr)} {pos spos py : Pos} {y : Str} {Q : Flow → Shared → Prop} {m : Str → Option Value} (F : Fr g env.locals s.heap m)
    (hsw : swapsWith (.ListComp elt [⟨t1, i1, [], 0⟩, ⟨t2, i2, [], 0⟩] scope pos) (some (.Name y py)) spos.line env = pure true)
    (hclos : closureFor scope env = pure cl) (hcell : ∀ y ∈ scope.names, y.2 ≠ .cell) (hkind : scope.kind = .function)
    (hnames : ∀ y ∈ scope.names, y.2 = .local → scope.names.lookup y.1 = some .local) (hfs : ∀ C x, foldedSetIterable i2 (compEnvC scope cl C env) x = pure x)
    (hy : env.kindOf y = some .local) (hp : (env.scope.kind == .class || (env.scope.kind == .module && env.locals != env.globals)) = false)
    (h : wpAny (model prog w) A (eval i1 env) (fun xv s₁ => wpAny (model prog w) A (pyIter xv) (fun it s₂ => ∃ (n : Nat) (J : Heap → Nat → List Value → Heap → Prop), (∀ i ys zs h h' C D mC, Fr g env.locals h m → h.Ns C mC → h.get? D = some (LCg.lst zs) → s₁.heap.get? C = none → s₁.heap.get? D = none → J s₁.heap i ys h → KeepC s₁.heap env.locals C D h h' → J s₁.heap i ys h') ∧
      Comp2 prog w A g env.locals env scope cl elt t1 i1 t2 i2 pos m s₁.heap n (J s₁.heap) it s₂ ∧
      ∀ D h' tk ys, Fr g env.locals h' (fun z => if z = y then some (.ref D) else m z) → h'.get? D = some (LCg.lst ys) → g.get? D = none → D ≠ env.locals → s₁.heap.get? D = none → J s₁.heap n ys h' → Q .next { s₂ with heap := h', toks := tk }) E s₁) E s)
    (hs : ∀ x, foldedSetIterable i1 env x = pure x := by intro _; rfl) :
    wpAny (model prog w) A (exec (.Assign [.Name y py] (.ListComp elt [⟨t1, i1, [], 0⟩, ⟨t2, i2, [], 0⟩] scope pos) spos) env) Q E s := by
  rw [exec_Assign_Name_used _ _ _ _ hsw]
  refine wpAny_bind (wpAny_standAt (wpAny_bind ?_))
  show wpAny _ A (do let _ ← comprehension (.ListComp elt [⟨t1, i1, [], 0⟩, ⟨t2, i2, [], 0⟩] scope pos) scope env _ (newList []) false (eval i1 env) (some (assign (.Name y py) env))) _ _ s
  refine wpAny_bind (wpAny_mono (comp_2g (g := g) (L := env.locals) (m := m) (use := some (assign (.Name y py) env)) (Q := fun _ s' => Q .next s') hclos hcell hkind hnames hfs
    (wpAny_mono h (fun xv s₁ h₁ => wpAny_mono h₁ (fun it s₂ h₂ => ?_) fun _ _ e => e) fun _ _ e => e) hs) (fun _ s' hq => wpAny_pure (wpAny_pure hq)) fun _ _ e => e)
  refine hide (fun P9 toP9 => ?_)
  obtain ⟨n, J, stab, hC, hQ⟩ := h₂
  (refine toP9 ?_; clear toP9 P9)
  exact ⟨n, J s₁.heap, stab, hC, fun D C h' tk ys mC F' hC' hD n1 n2 n3 g1 g2 H1 H2 hJ => assign_fin (Hs := s₁.heap) (J := J s₁.heap n) hy hp F' hC' hD n1 n2 n3 g1 (fun h'' kc => stab n ys ys h' h'' C D mC F' hC' hD H1 H2 hJ kc) fun h'' tk' F'' hD'' hJ'' => hQ D h'' tk' ys F'' hD'' g2 (Ne.symm n3) H2 hJ''⟩
end
set_option maxRecDepth 100000 in
set_option maxHeartbeats 2000000 in
theorem before_ok {w : World} {mean : ExcName → Option Value} {mg mb : Str → Option Value} {h₀ : Heap} {s : Shared} {dp un : Nat} {gd : Option (List Code)} {fr : Option (List Env)} {rl gol fl : Addr} {rvs gvs fvs : List Value} {cs : List Nat} {ggs : List (List Int)} {fs : List (List (Int × Int))} {ev : Value} {ps : List (Int × Int)} {Q E : Value → Shared → Prop}
    (X : (Mine.hd.heap_1 w.params).In h₀) (T : Top Mine.vw (looseW Mine.vw []) mean mg mb h₀) (st0 : h₀.StaysIn s.heap)
    (hd : dp + 3 < recursionLimit) (hu : un + 120 < cLine)
    (hrl : s.heap.IsList rl rvs.toArray) (hR : RowsAt s.heap rvs cs) (hgl : s.heap.IsList gol gvs.toArray) (hG : GoalsAt s.heap gvs ggs cs.length) (hgg : ggs.length = cs.length) (hfl : s.heap.IsList fl fvs.toArray) (hF : FullAt s.heap fvs fs) (hlen : cs.length = fs.length) (hev : PairsAt s.heap ev ps) (hps : ps.length ≤ 10)
    (hQ : ∀ r h' tk', s.heap.get? r = none → s.heap.StaysIn h' → DAt PySem.Challenge.pw_xm0585_01 w h' r (bbE ps cs ggs fs cs.length) → Q (.ref r) { s with heap := h', toks := tk' }) :
    wpAny (model PySem.Challenge.pw_xm0585_01 w) (arnd dp un gd fr) (call (.ref 223) [.ref rl, .ref gol, .ref fl, ev]) Q E s := by
  refine hide (fun P9 toP9 => ?_)
  obtain ⟨et, evs, rfl, het, hew⟩ := hev
  (refine toP9 ?_; clear toP9 P9)
  refine' enterC (news := []) X T st0 (fun _ h => nomatch h) (fun _ h => nomatch h) ?ho ?hcd ?hroom ?hbind ?hkind ?hnd ?_ ?c3 ?c4 ?c5
  case ho => k_dflt k_is
  case hcd => k_dflt k_is
  case hroom => ktr_room
  case hbind => exact BindsTo.of_eq rfl
  case hkind => exact rfl
  case hnd => decide +kernel
  case c3 => exact rfl
  case c4 => exact rfl
  case c5 => exact rfl
  intro g L' h₁ tk cells st1 st2 keep F' N' Y' X' T' nL l1 d' u' fr' hd' hu'
  change Fr _ _ _ (bindL _ [(_, _), (_, _), (_, _), (_, _)] _) at F'
  have k : ∀ b o, s.heap.get? b = some o → g.get? b = some o := fun b o e => keep b o e (fun h => nomatch h)
  replace hrl := hrl.at (k rl); replace hR := hR.mono k; replace hfl := hfl.at (k fl); replace hF := hF.mono k; replace hgl := hgl.at (k gol); replace hG := hG.mono k; replace het := het.keeps k; replace hew := hew.mono k
  k_lt l1
  (have hY := CellsAre.two Y'; obtain ⟨o9, o8, hE9, d9, d8⟩ := hY; subst hE9; clear Y')
  (replace d8 : o8.data = .cell (some (.ref fl)) := by first | (with_unfolding_all exact d8) | (rw [d8]; rfl) | (rw [d8]; simp [bindC]))
  (try simp only [List.cons_append, List.nil_append] at N')
  (try dsimp only)
  have c8 := N' (L' + 1, o8) (.tail _ (.head _))
  have c9 := N' (L' + 1 + 1, o9) (.head _)
  (repeat' ((fail_if_success (with_reducible refine stop_at (by first | (constructor; done) | exact .call (by decide)) ?_)); first | (k_unfold; (try dsimp only)) | (k_end; wrow_close) | ((first | ((with_reducible show wpAny _ _ (subscriptTail _ (PySem.Expr.Slice none none (some _) _) (Value.ref _) (Value.ref _)) _ _ _); refine krv_lit (its := List.toArray _) (zs := List.reverse _) (by k_asm) (by k_asm) (News.isList (by k_asm) (by k_mem)) (IsPart.int _ _) rfl ?_ (by with_unfolding_all rfl) (by kmk_pure) (by unfold sizeLine; simp only [List.size_toArray]; omega); k_whole; intro Dzz9 hzz9 Fzz9 Nzz9 l1zz9; (try k_lt l1zz9); (try k_sweep)) | ((with_reducible show wpAny _ _ (call (Value.type _) [Value.ref _]) _ _ _); refine enum_call (by k_asm) (by k_asm) (by assumption) ?_; k_whole; intro hzz9 ezz9 Fzz9 Nzz9 hezz9; (try k_sweep)) | ((with_reducible show wpAny _ _ (subscriptTail _ _ (Value.ref _) (Value.int _ _)) _ _ _); first | (refine item_tupleT (Fr.tup (by k_asm) (by assumption)) (by decide) (by decide) (by rfl) (by rfl) ?_; k_whole) | ((with_reducible show wpAny _ _ (subscriptTail _ _ (Value.ref _) (Value.int 0 _)) _ _ _); refine itemT_head (by k_asm) (by assumption) ?_; k_whole) | (refine itemL_at (by k_asm) (by assumption) (by first | assumption | rfl) (by ktr_units) (by ktr_units) ?_; k_whole)) | ((with_reducible show wpAny _ _ (call (Value.builtin "len") [Value.ref _]) _ _ _); refine PyProof.Rows.len_list (Fr.lst (by k_asm) (by assumption)) (by ktr_units) ?_; k_whole) | ((with_reducible show wpAny _ _ (spliced _) _ _ _); refine' args_plain ?qSS ?qFF ?qkk ?qPP ?_; (case qSS => rfl); (case qFF => k_asm); (case qkk => rfl); (case qPP => repeat' first | exact Plain.nil | (apply Plain.name; exact rfl; exact rfl; decide) | apply Plain.none | apply Plain.bool | apply Plain.int | apply Plain.str); k_whole; (try dsimp only [List.cons_append, List.nil_append])) | walk1) <;> first | (with_reducible show wpAny _ _ (subscriptTail _ (PySem.Expr.Slice _ _ _ _) _ _) _ _ _) | (try dsimp only)) | (dsimp only; walk1) | (leave1; try dsimp only) | fail "no step"))
  refine wpAny_For ?_ (by intro _; rfl)
  (repeat' ((fail_if_success (with_reducible refine stop_at (by first | (constructor; done) | exact .call (by decide)) ?_)); first | (k_unfold; (try dsimp only)) | (k_end; wrow_close) | ((first | ((with_reducible show wpAny _ _ (subscriptTail _ (PySem.Expr.Slice none none (some _) _) (Value.ref _) (Value.ref _)) _ _ _); refine krv_lit (its := List.toArray _) (zs := List.reverse _) (by k_asm) (by k_asm) (News.isList (by k_asm) (by k_mem)) (IsPart.int _ _) rfl ?_ (by with_unfolding_all rfl) (by kmk_pure) (by unfold sizeLine; simp only [List.size_toArray]; omega); k_whole; intro Dzz9 hzz9 Fzz9 Nzz9 l1zz9; (try k_lt l1zz9); (try k_sweep)) | ((with_reducible show wpAny _ _ (call (Value.type _) [Value.ref _]) _ _ _); refine enum_call (by k_asm) (by k_asm) (by assumption) ?_; k_whole; intro hzz9 ezz9 Fzz9 Nzz9 hezz9; (try k_sweep)) | ((with_reducible show wpAny _ _ (subscriptTail _ _ (Value.ref _) (Value.int _ _)) _ _ _); first | (refine item_tupleT (Fr.tup (by k_asm) (by assumption)) (by decide) (by decide) (by rfl) (by rfl) ?_; k_whole) | ((with_reducible show wpAny _ _ (subscriptTail _ _ (Value.ref _) (Value.int 0 _)) _ _ _); refine itemT_head (by k_asm) (by assumption) ?_; k_whole) | (refine itemL_at (by k_asm) (by assumption) (by first | assumption | rfl) (by ktr_units) (by ktr_units) ?_; k_whole)) | ((with_reducible show wpAny _ _ (call (Value.builtin "len") [Value.ref _]) _ _ _); refine PyProof.Rows.len_list (Fr.lst (by k_asm) (by assumption)) (by ktr_units) ?_; k_whole) | ((with_reducible show wpAny _ _ (spliced _) _ _ _); refine' args_plain ?qSS ?qFF ?qkk ?qPP ?_; (case qSS => rfl); (case qFF => k_asm); (case qkk => rfl); (case qPP => repeat' first | exact Plain.nil | (apply Plain.name; exact rfl; exact rfl; decide) | apply Plain.none | apply Plain.bool | apply Plain.int | apply Plain.str); k_whole; (try dsimp only [List.cons_append, List.nil_append])) | walk1) <;> first | (with_reducible show wpAny _ _ (subscriptTail _ (PySem.Expr.Slice _ _ _ _) _ _) _ _ _) | (try dsimp only)) | (dsimp only; walk1) | (leave1; try dsimp only) | fail "no step"))
  rename EnumFor _ _ _ _ _ _ => hE; rename Fr _ _ _ _ => F₀; rename News _ _ _ _ => N₀; rename (_ == sysModules) = false => hds; rename Obj.IsDictOf (intKind _ _) _ _ => hD0
  refine hide (fun P9 toP9 => ?_)
  obtain ⟨dat0, hdL, hdg⟩ := dat_of N₀ hds hD0
  (refine toP9 ?_; clear toP9 P9)
  clear hds hD0
  have c0 : ∃ v, (_ : Heap).IsCell (L' + 1 + 1) v := ⟨_, cell_news N₀ (.tail _ (.head _)) d9⟩
  have e80 := N₀ (L' + 1, o8) (.tail _ (.tail _ (.head _)))
  refine enumC_H (c := L' + 1 + 1) (fun b m h => AgreeOff [Str.ofString "row", Str.ofString "behind", Str.ofString "passed", Str.ofString "index"] _ m ∧ DAt PySem.Challenge.pw_xm0585_01 w h _ (bbE ps cs ggs fs b) ∧ (∃ v, h.IsCell (L' + 1 + 1) v) ∧ h.get? (L' + 1) = some o8) rfl hE rfl rfl rfl c9.2.1 c9.2.2 c0 rfl rfl F₀ ⟨.refl, dat0, c0, e80.1⟩ ?stab ?hJc ?step ?done
  case stab => exact fun b m h h' F hJ hc ko => ⟨hJ.1, dat_off2 F hdL hJ.2.2.1 ko hJ.2.1, hc, ko _ _ hJ.2.2.2 c8.2.1 (Nat.ne_of_lt (Nat.lt_succ_self (L' + 1))) (.inl (by unfold isFields; rw [d8]))⟩
  case hJc => exact fun _ _ _ hJ => hJ.2.2.1
  case done =>
    intro m' h' tk' hJ F'
    have hD := hJ.2.1
    have F9 := F'
    rw [AgreeOff.form hJ.1] at F9
    clear F₀ N₀ hJ F' hE
    (try dsimp only)
    refine hide (fun P9 toP9 => ?_)
    obtain ⟨D1, N1, -, hD1⟩ := refresh F9 News.nil
    (refine toP9 ?_; clear toP9 P9)
    have kf : ∀ h2 m2 news2, Fr g L' h2 m2 → News g L' h2 news2 → (∀ p ∈ D1, p ∈ news2) → DAt PySem.Challenge.pw_xm0585_01 w h2 _ (bbE ps cs ggs fs rvs.length) := fun _ _ _ a b c => dat_keeps F9 hdL (fun x o e hx _ => keepAll_of hD1 a b c x o e hx) hD
    clear hD1
    (repeat' ((fail_if_success (with_reducible refine stop_at (by first | (constructor; done) | exact .call (by decide)) ?_)); first | (k_unfold; (try dsimp only)) | (k_end; wrow_close) | ((first | ((with_reducible show wpAny _ _ (subscriptTail _ (PySem.Expr.Slice none none (some _) _) (Value.ref _) (Value.ref _)) _ _ _); refine krv_lit (its := List.toArray _) (zs := List.reverse _) (by k_asm) (by k_asm) (News.isList (by k_asm) (by k_mem)) (IsPart.int _ _) rfl ?_ (by with_unfolding_all rfl) (by kmk_pure) (by unfold sizeLine; simp only [List.size_toArray]; omega); k_whole; intro Dzz9 hzz9 Fzz9 Nzz9 l1zz9; (try k_lt l1zz9); (try k_sweep)) | ((with_reducible show wpAny _ _ (call (Value.type _) [Value.ref _]) _ _ _); refine enum_call (by k_asm) (by k_asm) (by assumption) ?_; k_whole; intro hzz9 ezz9 Fzz9 Nzz9 hezz9; (try k_sweep)) | ((with_reducible show wpAny _ _ (subscriptTail _ _ (Value.ref _) (Value.int _ _)) _ _ _); first | (refine item_tupleT (Fr.tup (by k_asm) (by assumption)) (by decide) (by decide) (by rfl) (by rfl) ?_; k_whole) | ((with_reducible show wpAny _ _ (subscriptTail _ _ (Value.ref _) (Value.int 0 _)) _ _ _); refine itemT_head (by k_asm) (by assumption) ?_; k_whole) | (refine itemL_at (by k_asm) (by assumption) (by first | assumption | rfl) (by ktr_units) (by ktr_units) ?_; k_whole)) | ((with_reducible show wpAny _ _ (call (Value.builtin "len") [Value.ref _]) _ _ _); refine PyProof.Rows.len_list (Fr.lst (by k_asm) (by assumption)) (by ktr_units) ?_; k_whole) | ((with_reducible show wpAny _ _ (spliced _) _ _ _); refine' args_plain ?qSS ?qFF ?qkk ?qPP ?_; (case qSS => rfl); (case qFF => k_asm); (case qkk => rfl); (case qPP => repeat' first | exact Plain.nil | (apply Plain.name; exact rfl; exact rfl; decide) | apply Plain.none | apply Plain.bool | apply Plain.int | apply Plain.str); k_whole; (try dsimp only [List.cons_append, List.nil_append])) | walk1) <;> first | (with_reducible show wpAny _ _ (subscriptTail _ (PySem.Expr.Slice _ _ _ _) _ _) _ _ _) | (try dsimp only)) | (dsimp only; walk1) | (leave1; try dsimp only) | fail "no step"))
    (try dsimp only)
    rename Fr _ _ _ _ => F; rename News _ _ _ _ => N
    exact hQ _ _ _ (none_of k hdg) (fun b o e => F.keep b o (k b o e)) (hR.1 ▸ kf _ _ _ F N (fun _ h => h))
  case step =>
    intro i t' v m₁ h tk hv0 hJ hcv F₁
    refine hide (fun P9 toP9 => ?_)
    rw [AgreeOff.form hJ.1] at F₁
    obtain ⟨rw', dvs, c, rfl, e1, e2, e3⟩ := hR.2.2.2 i v hv0
    have hi : i < rvs.length := (List.getElem?_eq_some_iff.mp hv0).1
    have hfz : i < gvs.length := by have := hG.1; have := hR.1; omega
    obtain ⟨v, hv⟩ : ∃ v, gvs[i]? = some v := ⟨gvs[i], List.getElem?_eq_getElem hfz⟩
    obtain ⟨gl, gs, gvl, rfl, f1, f2, f3, f4, f5⟩ := hG.2 i v hv
    have hsz : c ≤ 3 := hR.2.2.1 _ (List.mem_of_getElem? e2)
    have hi4 : i < 4 := by have := hR.1; have := hR.2.1; omega
    have hv' : gvs[(i : Int).toNat]? = some (.ref gl) := by simpa using hv
    have hD := hJ.2.1
    have h8 := hJ.2.2.2
    obtain ⟨oc, hoc, hdc⟩ := id hcv
    obtain ⟨D, N, -, hD1⟩ := refresh F₁ News.nil
    have N' := news_cons (p := (L' + 1, o8)) ⟨h8, c8.2⟩ (news_cons (p := (L' + 1 + 1, oc)) ⟨hoc, c9.2⟩ N)
    have kk : ∀ h' m' news', Fr g L' h' m' → News g L' h' news' → (∀ p ∈ D, p ∈ news') → ∀ b o, h.get? b = some o → b ≠ L' → h'.get? b = some o := fun _ _ _ a b c => keepAll_of hD1 a b c
    have ki := fun h' => keepIt_all (h' := h') F₁
    have kd := fun h' (q : ∀ b o, h.get? b = some o → b ≠ L' → h'.get? b = some o) => dat_keeps (h' := h') F₁ hdL (fun x o e hx _ => q x o e hx) hD
    have nf := ns_fields F₁
    have hgv : gvl.length ≤ 3 := by rw [ints_len f2]; exact f4
    clear hD1 F₀ N₀ hJ hv hv0 N hE
    (refine toP9 ?_; clear toP9 P9)
    (try dsimp only)
    (repeat' ((fail_if_success (with_reducible refine stop_at (by first | (constructor; done) | exact .call (by decide)) ?_)); first | (k_unfold; (try dsimp only)) | (k_end; wrow_close) | ((first | ((with_reducible show wpAny _ _ (subscriptTail _ (PySem.Expr.Slice none none (some _) _) (Value.ref _) (Value.ref _)) _ _ _); refine krv_lit (its := List.toArray _) (zs := List.reverse _) (by k_asm) (by k_asm) (News.isList (by k_asm) (by k_mem)) (IsPart.int _ _) rfl ?_ (by with_unfolding_all rfl) (by kmk_pure) (by unfold sizeLine; simp only [List.size_toArray]; omega); k_whole; intro Dzz9 hzz9 Fzz9 Nzz9 l1zz9; (try k_lt l1zz9); (try k_sweep)) | ((with_reducible show wpAny _ _ (call (Value.type _) [Value.ref _]) _ _ _); refine enum_call (by k_asm) (by k_asm) (by assumption) ?_; k_whole; intro hzz9 ezz9 Fzz9 Nzz9 hezz9; (try k_sweep)) | ((with_reducible show wpAny _ _ (subscriptTail _ _ (Value.ref _) (Value.int _ _)) _ _ _); first | (refine item_tupleT (Fr.tup (by k_asm) (by assumption)) (by decide) (by decide) (by rfl) (by rfl) ?_; k_whole) | ((with_reducible show wpAny _ _ (subscriptTail _ _ (Value.ref _) (Value.int 0 _)) _ _ _); refine itemT_head (by k_asm) (by assumption) ?_; k_whole) | (refine itemL_at (by k_asm) (by assumption) (by first | assumption | rfl) (by ktr_units) (by ktr_units) ?_; k_whole)) | ((with_reducible show wpAny _ _ (call (Value.builtin "len") [Value.ref _]) _ _ _); refine PyProof.Rows.len_list (Fr.lst (by k_asm) (by assumption)) (by ktr_units) ?_; k_whole) | ((with_reducible show wpAny _ _ (spliced _) _ _ _); refine' args_plain ?qSS ?qFF ?qkk ?qPP ?_; (case qSS => rfl); (case qFF => k_asm); (case qkk => rfl); (case qPP => repeat' first | exact Plain.nil | (apply Plain.name; exact rfl; exact rfl; decide) | apply Plain.none | apply Plain.bool | apply Plain.int | apply Plain.str); k_whole; (try dsimp only [List.cons_append, List.nil_append])) | walk1) <;> first | (with_reducible show wpAny _ _ (subscriptTail _ (PySem.Expr.Slice _ _ _ _) _ _) _ _ _) | (try dsimp only)) | (dsimp only; walk1) | (leave1; try dsimp only) | fail "no step"))
    rename Fr _ _ _ _ => F₂; rename News _ _ _ _ => N₂
    have q₂ := kk _ _ _ F₂ N₂ (fun _ h => .tail _ (.tail _ h))
    have c8₂ := q₂ _ _ h8 c8.2.1
    have c9₂ := q₂ _ _ hoc c9.2.1
    refine hide (fun P9 toP9 => ?_)
    obtain ⟨D2, N2, -, hDD2⟩ := refresh F₂ News.nil
    (refine toP9 ?_; clear toP9 P9)
    have N2' := news_cons (p := (L' + 1, o8)) ⟨c8₂, c8.2⟩ (news_cons (p := (L' + 1 + 1, oc)) ⟨c9₂, c9.2⟩ N2)
    have k23 : ∀ h' m' news', Fr g L' h' m' → News g L' h' news' → (∀ p ∈ D2, p ∈ news') → ∀ b o, Heap.get? _ b = some o → b ≠ L' → h'.get? b = some o := fun _ _ _ a b c => keepAll_of hDD2 a b c
    clear hDD2 N₂ N2
    refine Assign_Comp_2 F₂ (by with_unfolding_all rfl) (by with_unfolding_all rfl) (by decide) (by rfl) (by decide) (by intro _ _; rfl) rfl rfl ?_
    (repeat' ((fail_if_success (with_reducible refine stop_at (by first | (constructor; done) | exact .call (by decide)) ?_)); first | (k_unfold; (try dsimp only)) | (k_end; wrow_close) | ((first | ((with_reducible show wpAny _ _ (subscriptTail _ (PySem.Expr.Slice none none (some _) _) (Value.ref _) (Value.ref _)) _ _ _); refine krv_lit (its := List.toArray _) (zs := List.reverse _) (by k_asm) (by k_asm) (News.isList (by k_asm) (by k_mem)) (IsPart.int _ _) rfl ?_ (by with_unfolding_all rfl) (by kmk_pure) (by unfold sizeLine; simp only [List.size_toArray]; omega); k_whole; intro Dzz9 hzz9 Fzz9 Nzz9 l1zz9; (try k_lt l1zz9); (try k_sweep)) | ((with_reducible show wpAny _ _ (call (Value.type _) [Value.ref _]) _ _ _); refine enum_call (by k_asm) (by k_asm) (by assumption) ?_; k_whole; intro hzz9 ezz9 Fzz9 Nzz9 hezz9; (try k_sweep)) | ((with_reducible show wpAny _ _ (subscriptTail _ _ (Value.ref _) (Value.int _ _)) _ _ _); first | (refine item_tupleT (Fr.tup (by k_asm) (by assumption)) (by decide) (by decide) (by rfl) (by rfl) ?_; k_whole) | ((with_reducible show wpAny _ _ (subscriptTail _ _ (Value.ref _) (Value.int 0 _)) _ _ _); refine itemT_head (by k_asm) (by assumption) ?_; k_whole) | (refine itemL_at (by k_asm) (by assumption) (by first | assumption | rfl) (by ktr_units) (by ktr_units) ?_; k_whole)) | ((with_reducible show wpAny _ _ (call (Value.builtin "len") [Value.ref _]) _ _ _); refine PyProof.Rows.len_list (Fr.lst (by k_asm) (by assumption)) (by ktr_units) ?_; k_whole) | ((with_reducible show wpAny _ _ (spliced _) _ _ _); refine' args_plain ?qSS ?qFF ?qkk ?qPP ?_; (case qSS => rfl); (case qFF => k_asm); (case qkk => rfl); (case qPP => repeat' first | exact Plain.nil | (apply Plain.name; exact rfl; exact rfl; decide) | apply Plain.none | apply Plain.bool | apply Plain.int | apply Plain.str); k_whole; (try dsimp only [List.cons_append, List.nil_append])) | walk1) <;> first | (with_reducible show wpAny _ _ (subscriptTail _ (PySem.Expr.Slice _ _ _ _) _ _) _ _ _) | (try dsimp only)) | (dsimp only; walk1) | (leave1; try dsimp only) | fail "no step"))
    rename Fr _ _ _ _ => F₃; rename News _ _ _ _ => N₃
    refine unlike_use F₃ X' T' N₃ (by ktr_room) (by ktr_room) f1 f2 hgv ?_
    intro r us h3 tk3 st3 F₄ N₄ hr hus
    refine hide (fun P9 toP9 => ?_)
    have q3 := k23 _ _ _ F₄ N₄ (fun _ h => .tail _ (.tail _ h))
    have hul : us.length ≤ 3 := by have := ints_len hus; have := uniq_len gs; omega
    obtain ⟨D4, N4, -, hDD4⟩ := refresh F₄ News.nil
    have k45 : ∀ h' m' news', Fr g L' h' m' → News g L' h' news' → (∀ p ∈ D4, p ∈ news') → ∀ b o, h3.get? b = some o → b ≠ L' → h'.get? b = some o := fun _ _ _ a b c => keepAll_of hDD4 a b c
    have kl4 := fun h' (q : ∀ b o, h3.get? b = some o → b ≠ L' → h'.get? b = some o) => lst_keeps (h' := h') F₄ (fun x o e hx _ => q x o e hx) hr
    clear hDD4 F₃ N₃ N₄
    (refine toP9 ?_; clear toP9 P9)
    (try dsimp only)
    (repeat' ((fail_if_success (with_reducible refine stop_at (by first | (constructor; done) | exact .call (by decide)) ?_)); first | (k_unfold; (try dsimp only)) | (k_end; wrow_close) | ((first | ((with_reducible show wpAny _ _ (subscriptTail _ (PySem.Expr.Slice none none (some _) _) (Value.ref _) (Value.ref _)) _ _ _); refine krv_lit (its := List.toArray _) (zs := List.reverse _) (by k_asm) (by k_asm) (News.isList (by k_asm) (by k_mem)) (IsPart.int _ _) rfl ?_ (by with_unfolding_all rfl) (by kmk_pure) (by unfold sizeLine; simp only [List.size_toArray]; omega); k_whole; intro Dzz9 hzz9 Fzz9 Nzz9 l1zz9; (try k_lt l1zz9); (try k_sweep)) | ((with_reducible show wpAny _ _ (call (Value.type _) [Value.ref _]) _ _ _); refine enum_call (by k_asm) (by k_asm) (by assumption) ?_; k_whole; intro hzz9 ezz9 Fzz9 Nzz9 hezz9; (try k_sweep)) | ((with_reducible show wpAny _ _ (subscriptTail _ _ (Value.ref _) (Value.int _ _)) _ _ _); first | (refine item_tupleT (Fr.tup (by k_asm) (by assumption)) (by decide) (by decide) (by rfl) (by rfl) ?_; k_whole) | ((with_reducible show wpAny _ _ (subscriptTail _ _ (Value.ref _) (Value.int 0 _)) _ _ _); refine itemT_head (by k_asm) (by assumption) ?_; k_whole) | (refine itemL_at (by k_asm) (by assumption) (by first | assumption | rfl) (by ktr_units) (by ktr_units) ?_; k_whole)) | ((with_reducible show wpAny _ _ (call (Value.builtin "len") [Value.ref _]) _ _ _); refine PyProof.Rows.len_list (Fr.lst (by k_asm) (by assumption)) (by ktr_units) ?_; k_whole) | ((with_reducible show wpAny _ _ (spliced _) _ _ _); refine' args_plain ?qSS ?qFF ?qkk ?qPP ?_; (case qSS => rfl); (case qFF => k_asm); (case qkk => rfl); (case qPP => repeat' first | exact Plain.nil | (apply Plain.name; exact rfl; exact rfl; decide) | apply Plain.none | apply Plain.bool | apply Plain.int | apply Plain.str); k_whole; (try dsimp only [List.cons_append, List.nil_append])) | walk1) <;> first | (with_reducible show wpAny _ _ (subscriptTail _ (PySem.Expr.Slice _ _ _ _) _ _) _ _ _) | (try dsimp only)) | (dsimp only; walk1) | (leave1; try dsimp only) | fail "no step"))
    rename Fr _ _ _ _ => F₅; rename News _ _ _ _ => N₅
    have q4 := k45 _ _ _ F₅ N₅ (fun _ h => h)
    have q5 : ∀ b o, Heap.get? _ b = some o → b ≠ L' → Heap.get? _ b = some o := fun b o e hb => q4 b o (q3 b o e hb) hb
    have hr5 := kl4 _ q4
    have neL : r ≠ L' := lst_ne_ns hr5 F₅.ns
    have c85 := q5 _ _ c8₂ c8.2.1
    have c95 := q5 _ _ c9₂ c9.2.1
    have q05 : ∀ b o, h.get? b = some o → b ≠ L' → Heap.get? _ b = some o := fun b o e hb => q5 b o (q₂ b o e hb) hb
    have kt5 := ki _ q05
    have kd5 := kd _ q05
    refine wpAny_pyIter_list hr5 ?_
    refine ⟨us.length, fun H j ys hh => PairsL hh ys (joinE fs ((uniq gs).take j)) ∧ ys.length ≤ 2 * j ∧ ∀ b o, H.get? b = some o → b ≠ L' → hh.get? b = some o, ?stab2, comp2_list rfl F₅ (fun b o e hb q => by rw [e] at q; cases q) rfl rfl hr5 (fun h' kh => ⟨.nil, Nat.zero_le _, fun b o e _ => kh b o e⟩) (fun j ys hh hJ => hr5.at fun o e => hJ.2.2 r o e neL) ?el, ?after⟩
    case stab2 => exact fun j ys zs h h' C D mC F hC hD hC₀ hD₀ hJ kc => ⟨keepC_pairsL F hC hD kc hJ.1, hJ.2.1, keepC_old hC₀ hD₀ hJ.2.2 kc⟩
    case el =>
      intro C D j hh tkh ys mC R ⟨v, hv, hm1⟩ F₆ hC hD n1 n2 n3 n4 n5 hC₀ hD₀ hJ
      refine hide (fun P9 toP9 => ?_)
      obtain ⟨n, tn, rfl, hgn⟩ := ints_get hus j _ hv
      obtain ⟨hn0, hn1⟩ := f5 n (uniq_mem (List.mem_of_getElem? hgn))
      have hju : j < us.length := (List.getElem?_eq_some_iff.mp hv).1
      have hfz : n.toNat < fvs.length := by have := hF.1; omega
      have hn4 : n < 4 := by have := hR.2.1; omega
      obtain ⟨fv, hfv⟩ : ∃ v, fvs[n.toNat]? = some v := ⟨fvs[n.toNat], List.getElem?_eq_getElem hfz⟩
      obtain ⟨qs, ⟨ft, fw, rfl, hft, hfw⟩, efs⟩ := hF.2.2 _ _ hfv
      have hql : fw.length ≤ 2 := by rw [hfw.len]; exact hF.2.1 _ (List.mem_of_getElem? efs)
      obtain ⟨oC, hoC, nC⟩ := LCg.ns_obj hC
      have hc6 := hJ.2.2 _ _ c85 c8.2.1
      obtain ⟨D6, N6, -, hDD6⟩ := refresh F₆ News.nil
      have N₆ := news_cons (p := (C, oC)) ⟨hoC, Ne.symm n2, n4⟩ (news_cons (p := (D, LCg.lst ys)) ⟨hD, Ne.symm n3, n5⟩ (news_cons (p := (L' + 1, o8)) ⟨hc6, c8.2⟩ N6))
      have k6 : ∀ h' m' news', Fr g L' h' m' → News g L' h' news' → (∀ p ∈ D6, p ∈ news') → ∀ b o, hh.get? b = some o → b ≠ L' → h'.get? b = some o := fun _ _ _ a b c => keepAll_of hDD6 a b c
      have kiC := fun h' => keepIt_C (h' := h') F₆ hC hD
      have kJ := fun h' (q : ∀ b o, hh.get? b = some o → b ≠ L' → b ≠ C → b ≠ D → h'.get? b = some o) => keepC_pairsL (Hs := h') F₆ hC hD (fun b o e b1 b2 b3 _ => q b o e b1 b2 b3) hJ.1
      clear hDD6 N6 F₅ N₅ hv
      (refine toP9 ?_; clear toP9 P9)
      (try dsimp only)
      (repeat' ((fail_if_success (with_reducible refine stop_at (by first | (constructor; done) | exact .call (by decide)) ?_)); first | (k_unfold; (try dsimp only)) | (k_end; wrow_close) | ((first | ((with_reducible show wpAny _ _ (subscriptTail _ (PySem.Expr.Slice none none (some _) _) (Value.ref _) (Value.ref _)) _ _ _); refine krv_lit (its := List.toArray _) (zs := List.reverse _) (by k_asm) (by k_asm) (News.isList (by k_asm) (by k_mem)) (IsPart.int _ _) rfl ?_ (by with_unfolding_all rfl) (by kmk_pure) (by unfold sizeLine; simp only [List.size_toArray]; omega); k_whole; intro Dzz9 hzz9 Fzz9 Nzz9 l1zz9; (try k_lt l1zz9); (try k_sweep)) | ((with_reducible show wpAny _ _ (call (Value.type _) [Value.ref _]) _ _ _); refine enum_call (by k_asm) (by k_asm) (by assumption) ?_; k_whole; intro hzz9 ezz9 Fzz9 Nzz9 hezz9; (try k_sweep)) | ((with_reducible show wpAny _ _ (subscriptTail _ _ (Value.ref _) (Value.int _ _)) _ _ _); first | (refine item_tupleT (Fr.tup (by k_asm) (by assumption)) (by decide) (by decide) (by rfl) (by rfl) ?_; k_whole) | ((with_reducible show wpAny _ _ (subscriptTail _ _ (Value.ref _) (Value.int 0 _)) _ _ _); refine itemT_head (by k_asm) (by assumption) ?_; k_whole) | (refine itemL_at (by k_asm) (by assumption) (by first | assumption | rfl) (by ktr_units) (by ktr_units) ?_; k_whole)) | ((with_reducible show wpAny _ _ (call (Value.builtin "len") [Value.ref _]) _ _ _); refine PyProof.Rows.len_list (Fr.lst (by k_asm) (by assumption)) (by ktr_units) ?_; k_whole) | ((with_reducible show wpAny _ _ (spliced _) _ _ _); refine' args_plain ?qSS ?qFF ?qkk ?qPP ?_; (case qSS => rfl); (case qFF => k_asm); (case qkk => rfl); (case qPP => repeat' first | exact Plain.nil | (apply Plain.name; exact rfl; exact rfl; decide) | apply Plain.none | apply Plain.bool | apply Plain.int | apply Plain.str); k_whole; (try dsimp only [List.cons_append, List.nil_append])) | walk1) <;> first | (with_reducible show wpAny _ _ (subscriptTail _ (PySem.Expr.Slice _ _ _ _) _ _) _ _ _) | (try dsimp only)) | (dsimp only; walk1) | (leave1; try dsimp only) | fail "no step"))
      rename Fr _ _ _ _ => F₇; rename News _ _ _ _ => N₇
      have q7 := k6 _ _ _ F₇ N₇ (fun p hp => .tail _ (.tail _ (.tail _ hp)))
      refine comp_inner rfl F₇ hft (nC.ns (N₇.get (.head _))) (N₇.get (.tail _ (.head _))) rfl rfl (by decide) n1 n2 n3 n4 n5 (by have := hJ.2.1; unfold sizeLine; omega) ?_
      intro h8 mC8 tk8 F₈ hC8 hD8 k8
      have kall : ∀ b o, hh.get? b = some o → b ≠ L' → b ≠ C → b ≠ D → h8.get? b = some o := fun b o e b1 b2 b3 => k8 b o (q7 b o e b1) b1 b2 b3
      refine ⟨h8, tk8, mC8, ys ++ fw, rfl, F₈, hC8, hD8, kiC _ kall, ?_, ?_, fun b o e hb => kall b o (hJ.2.2 b o e hb) hb (fun q => by rw [q, hC₀] at e; cases e) (fun q => by rw [q, hD₀] at e; cases e)⟩
      · have e9 : fs.getD n.toNat [] = qs := by rw [List.getD_eq_getElem?_getD, efs]; rfl
        rw [List.take_add_one, hgn, Option.toList_some, joinE_snoc, e9]
        exact (kJ _ kall).append (hfw.mono F₈.keep)
      · rw [List.length_append]; have := hJ.2.1; omega
    case after =>
      intro D h6 tk6 ys F₆ hD g2 nDL hD₁ hJ
      refine hide (fun P9 toP9 => ?_)
      have hpl : PairsL h6 ys (joinE fs (uniq gs)) := by
        have := hJ.1
        rwa [ints_len hus, List.take_length] at this
      have hyl : ys.length ≤ 6 := by have := hJ.2.1; omega
      have h86 := hJ.2.2 _ _ c85 c8.2.1
      have h96 := hJ.2.2 _ _ c95 c9.2.1
      have q06 : ∀ b o, h.get? b = some o → b ≠ L' → h6.get? b = some o := fun b o e hb => hJ.2.2 b o (q05 b o e hb) hb
      have kt6 := ki _ q06
      have hD6 := kd _ q06
      obtain ⟨D6, N6, -, hDD6⟩ := refresh F₆ News.nil
      have N₆ := news_cons (p := (D, LCg.lst ys)) ⟨hD, nDL, g2⟩ (news_cons (p := (L' + 1 + 1, oc)) ⟨h96, c9.2⟩ N6)
      have k67 : ∀ h' m' news', Fr g L' h' m' → News g L' h' news' → (∀ p ∈ D6, p ∈ news') → ∀ b o, h6.get? b = some o → b ≠ L' → h'.get? b = some o := fun _ _ _ a b c => keepAll_of hDD6 a b c
      have ki6 := fun h' => keepIt_all (h' := h') F₆
      have kd6 := fun h' (q : ∀ b o, h6.get? b = some o → b ≠ L' → h'.get? b = some o) => dat_keeps (h' := h') F₆ hdL (fun x o e hx _ => q x o e hx) hD6
      have kp6 := fun h' (q : ∀ b o, h6.get? b = some o → b ≠ L' → h'.get? b = some o) => pairsL_keeps (h' := h') F₆ (fun x o e hx _ => q x o e hx) hpl
      clear hDD6 N6; (try clear F₅); (try clear N₅); (try clear F₂); (try clear N2')
      (refine toP9 ?_; clear toP9 P9)
      (try dsimp only)
      (repeat' ((fail_if_success (with_reducible refine stop_at (by first | (constructor; done) | exact .call (by decide)) ?_)); first | (k_unfold; (try dsimp only)) | (k_end; wrow_close) | ((first | ((with_reducible show wpAny _ _ (subscriptTail _ (PySem.Expr.Slice none none (some _) _) (Value.ref _) (Value.ref _)) _ _ _); refine krv_lit (its := List.toArray _) (zs := List.reverse _) (by k_asm) (by k_asm) (News.isList (by k_asm) (by k_mem)) (IsPart.int _ _) rfl ?_ (by with_unfolding_all rfl) (by kmk_pure) (by unfold sizeLine; simp only [List.size_toArray]; omega); k_whole; intro Dzz9 hzz9 Fzz9 Nzz9 l1zz9; (try k_lt l1zz9); (try k_sweep)) | ((with_reducible show wpAny _ _ (call (Value.type _) [Value.ref _]) _ _ _); refine enum_call (by k_asm) (by k_asm) (by assumption) ?_; k_whole; intro hzz9 ezz9 Fzz9 Nzz9 hezz9; (try k_sweep)) | ((with_reducible show wpAny _ _ (subscriptTail _ _ (Value.ref _) (Value.int _ _)) _ _ _); first | (refine item_tupleT (Fr.tup (by k_asm) (by assumption)) (by decide) (by decide) (by rfl) (by rfl) ?_; k_whole) | ((with_reducible show wpAny _ _ (subscriptTail _ _ (Value.ref _) (Value.int 0 _)) _ _ _); refine itemT_head (by k_asm) (by assumption) ?_; k_whole) | (refine itemL_at (by k_asm) (by assumption) (by first | assumption | rfl) (by ktr_units) (by ktr_units) ?_; k_whole)) | ((with_reducible show wpAny _ _ (call (Value.builtin "len") [Value.ref _]) _ _ _); refine PyProof.Rows.len_list (Fr.lst (by k_asm) (by assumption)) (by ktr_units) ?_; k_whole) | ((with_reducible show wpAny _ _ (spliced _) _ _ _); refine' args_plain ?qSS ?qFF ?qkk ?qPP ?_; (case qSS => rfl); (case qFF => k_asm); (case qkk => rfl); (case qPP => repeat' first | exact Plain.nil | (apply Plain.name; exact rfl; exact rfl; decide) | apply Plain.none | apply Plain.bool | apply Plain.int | apply Plain.str); k_whole; (try dsimp only [List.cons_append, List.nil_append])) | walk1) <;> first | (with_reducible show wpAny _ _ (subscriptTail _ (PySem.Expr.Slice _ _ _ _) _ _) _ _ _) | (try dsimp only)) | (dsimp only; walk1) | (leave1; try dsimp only) | fail "no step"))
      refine wpAny_For ?_ (by intro _; rfl)
      (repeat' ((fail_if_success (with_reducible refine stop_at (by first | (constructor; done) | exact .call (by decide)) ?_)); first | (k_unfold; (try dsimp only)) | (k_end; wrow_close) | ((first | ((with_reducible show wpAny _ _ (subscriptTail _ (PySem.Expr.Slice none none (some _) _) (Value.ref _) (Value.ref _)) _ _ _); refine krv_lit (its := List.toArray _) (zs := List.reverse _) (by k_asm) (by k_asm) (News.isList (by k_asm) (by k_mem)) (IsPart.int _ _) rfl ?_ (by with_unfolding_all rfl) (by kmk_pure) (by unfold sizeLine; simp only [List.size_toArray]; omega); k_whole; intro Dzz9 hzz9 Fzz9 Nzz9 l1zz9; (try k_lt l1zz9); (try k_sweep)) | ((with_reducible show wpAny _ _ (call (Value.type _) [Value.ref _]) _ _ _); refine enum_call (by k_asm) (by k_asm) (by assumption) ?_; k_whole; intro hzz9 ezz9 Fzz9 Nzz9 hezz9; (try k_sweep)) | ((with_reducible show wpAny _ _ (subscriptTail _ _ (Value.ref _) (Value.int _ _)) _ _ _); first | (refine item_tupleT (Fr.tup (by k_asm) (by assumption)) (by decide) (by decide) (by rfl) (by rfl) ?_; k_whole) | ((with_reducible show wpAny _ _ (subscriptTail _ _ (Value.ref _) (Value.int 0 _)) _ _ _); refine itemT_head (by k_asm) (by assumption) ?_; k_whole) | (refine itemL_at (by k_asm) (by assumption) (by first | assumption | rfl) (by ktr_units) (by ktr_units) ?_; k_whole)) | ((with_reducible show wpAny _ _ (call (Value.builtin "len") [Value.ref _]) _ _ _); refine PyProof.Rows.len_list (Fr.lst (by k_asm) (by assumption)) (by ktr_units) ?_; k_whole) | ((with_reducible show wpAny _ _ (spliced _) _ _ _); refine' args_plain ?qSS ?qFF ?qkk ?qPP ?_; (case qSS => rfl); (case qFF => k_asm); (case qkk => rfl); (case qPP => repeat' first | exact Plain.nil | (apply Plain.name; exact rfl; exact rfl; decide) | apply Plain.none | apply Plain.bool | apply Plain.int | apply Plain.str); k_whole; (try dsimp only [List.cons_append, List.nil_append])) | walk1) <;> first | (with_reducible show wpAny _ _ (subscriptTail _ (PySem.Expr.Slice _ _ _ _) _ _) _ _ _) | (try dsimp only)) | (dsimp only; walk1) | (leave1; try dsimp only) | fail "no step"))
      rename IsRange _ _ _ _ _ _ _ _ => hR2; rename Fr _ _ _ _ => F₇; rename News _ _ _ _ => N₇
      have q7 := k67 _ _ _ F₇ N₇ (fun p hp => .tail _ (.tail _ hp))
      have kt7 := kt6.trans (ki6 _ q7)
      have hD7 := kd6 _ q7
      refine range_H (n := dvs.length) (fun j m h2 => AgreeOff [Str.ofString "passed", Str.ofString "index"] _ m ∧ DAt PySem.Challenge.pw_xm0585_01 w h2 _ (bbE ps cs ggs fs i ++ bbB i (ps ++ joinE fs (uniq gs)) c j) ∧ h2.IsCell (L' + 1 + 1) (some (.int (i : Int) t')) ∧ h2.get? (L' + 1) = some o8 ∧ h2.get? D = some (LCg.lst ys) ∧ PairsL h2 ys (joinE fs (uniq gs)) ∧ KeepIt h h2) rfl hR2 ?sm3 ?sz3 rfl rfl F₇
        ⟨.refl, by simpa [bbB] using hD7, ⟨_, N₇.get (.tail _ (.head _)), hdc⟩, q7 _ _ h86 c8.2.1, N₇.get (.head _), kp6 _ q7, kt7⟩ ?stab3 ?step3 ?done3
      case sm3 => exact small_to (n := dvs.length) (by omega)
      case sz3 => exact size_to _
      case stab3 => exact fun j m h h' F hJ ko => ⟨hJ.1, dat_keeps F hdL (fun a o e ha hf => ko a o e ha (.inl hf)) hJ.2.1, let ⟨oc, hoc, hdc⟩ := hJ.2.2.1; ⟨oc, ko _ _ hoc c9.2.1 (.inl (by unfold isFields; rw [hdc])), hdc⟩, ko _ _ hJ.2.2.2.1 c8.2.1 (.inl (by unfold isFields; rw [d8])), ko _ _ hJ.2.2.2.2.1 nDL (.inl rfl), pairsL_keeps F (fun x o e hx hf => ko x o e hx (.inl hf)) hJ.2.2.2.2.2.1, hJ.2.2.2.2.2.2.stab kt7 nf ko⟩
      case done3 =>
        intro m' h' tk' hJ' F'
        have F9 := F'
        rw [AgreeOff.form hJ'.1] at F9
        clear F'
        (try dsimp only)
        (repeat' ((fail_if_success (with_reducible refine stop_at (by first | (constructor; done) | exact .call (by decide)) ?_)); first | (k_unfold; (try dsimp only)) | (k_end; wrow_close) | ((first | ((with_reducible show wpAny _ _ (subscriptTail _ (PySem.Expr.Slice none none (some _) _) (Value.ref _) (Value.ref _)) _ _ _); refine krv_lit (its := List.toArray _) (zs := List.reverse _) (by k_asm) (by k_asm) (News.isList (by k_asm) (by k_mem)) (IsPart.int _ _) rfl ?_ (by with_unfolding_all rfl) (by kmk_pure) (by unfold sizeLine; simp only [List.size_toArray]; omega); k_whole; intro Dzz9 hzz9 Fzz9 Nzz9 l1zz9; (try k_lt l1zz9); (try k_sweep)) | ((with_reducible show wpAny _ _ (call (Value.type _) [Value.ref _]) _ _ _); refine enum_call (by k_asm) (by k_asm) (by assumption) ?_; k_whole; intro hzz9 ezz9 Fzz9 Nzz9 hezz9; (try k_sweep)) | ((with_reducible show wpAny _ _ (subscriptTail _ _ (Value.ref _) (Value.int _ _)) _ _ _); first | (refine item_tupleT (Fr.tup (by k_asm) (by assumption)) (by decide) (by decide) (by rfl) (by rfl) ?_; k_whole) | ((with_reducible show wpAny _ _ (subscriptTail _ _ (Value.ref _) (Value.int 0 _)) _ _ _); refine itemT_head (by k_asm) (by assumption) ?_; k_whole) | (refine itemL_at (by k_asm) (by assumption) (by first | assumption | rfl) (by ktr_units) (by ktr_units) ?_; k_whole)) | ((with_reducible show wpAny _ _ (call (Value.builtin "len") [Value.ref _]) _ _ _); refine PyProof.Rows.len_list (Fr.lst (by k_asm) (by assumption)) (by ktr_units) ?_; k_whole) | ((with_reducible show wpAny _ _ (spliced _) _ _ _); refine' args_plain ?qSS ?qFF ?qkk ?qPP ?_; (case qSS => rfl); (case qFF => k_asm); (case qkk => rfl); (case qPP => repeat' first | exact Plain.nil | (apply Plain.name; exact rfl; exact rfl; decide) | apply Plain.none | apply Plain.bool | apply Plain.int | apply Plain.str); k_whole; (try dsimp only [List.cons_append, List.nil_append])) | walk1) <;> first | (with_reducible show wpAny _ _ (subscriptTail _ (PySem.Expr.Slice _ _ _ _) _ _) _ _ _) | (try dsimp only)) | (dsimp only; walk1) | (leave1; try dsimp only) | fail "no step"))
        (try dsimp only)
        refine ⟨_, _, _, rfl, F9, hJ'.2.2.2.2.2.2, ?_, ?_, ⟨_, hJ'.2.2.1⟩, hJ'.2.2.2.1⟩
        · intro y hy
          simp only [List.mem_cons, List.not_mem_nil, or_false, not_or] at hy
          simp only [pick, hy, if_false]
        · have e9 : cs.getD i 0 = c := by rw [List.getD_eq_getElem?_getD, e2]; rfl
          have e8 : ggs.getD i [] = gs := by rw [List.getD_eq_getElem?_getD, f3]; rfl
          rw [bbE_succ, bbR, e9, e8, ← e3]
          exact hJ'.2.1
      case step3 =>
        intro j tj m₂ h2 tk2 hj hJ2 F₃
        refine hide (fun P9 toP9 => ?_)
        rw [show (0 + (j : Int) * 1) = (j : Int) by omega] at F₃
        obtain ⟨ha, hD3, ⟨o3, ho3, hd3⟩, h83, hDl, hpl3, kt2⟩ := hJ2
        rw [AgreeOff.form ha] at F₃
        obtain ⟨D3, N3, -, hDD⟩ := refresh F₃ News.nil
        have N3' := news_cons (p := (D, LCg.lst ys)) ⟨hDl, nDL, g2⟩ (news_cons (p := (L' + 1 + 1, o3)) ⟨ho3, c9.2⟩ N3)
        have kk3 : ∀ h' m' news', Fr g L' h' m' → News g L' h' news' → (∀ p ∈ D3, p ∈ news') → ∀ b o, h2.get? b = some o → b ≠ L' → h'.get? b = some o := fun _ _ _ a b c => keepAll_of hDD a b c
        have ki3 := fun h' => keepIt_all (h' := h') F₃
        have kd3 := fun h' (q : ∀ b o, h2.get? b = some o → b ≠ L' → h'.get? b = some o) => dat_keeps (h' := h') F₃ hdL (fun x o e hx _ => q x o e hx) hD3
        have kp3 := fun h' (q : ∀ b o, h2.get? b = some o → b ≠ L' → h'.get? b = some o) => pairsL_keeps (h' := h') F₃ (fun x o e hx _ => q x o e hx) hpl3
        clear hDD hR2 N3; (try clear F₇); (try clear N₇); (try clear q7)
        (refine toP9 ?_; clear toP9 P9)
        (try dsimp only)
        (repeat' ((fail_if_success (with_reducible refine stop_at (by first | (constructor; done) | exact .call (by decide)) ?_)); first | (k_unfold; (try dsimp only)) | (k_end; wrow_close) | ((first | ((with_reducible show wpAny _ _ (subscriptTail _ (PySem.Expr.Slice none none (some _) _) (Value.ref _) (Value.ref _)) _ _ _); refine krv_lit (its := List.toArray _) (zs := List.reverse _) (by k_asm) (by k_asm) (News.isList (by k_asm) (by k_mem)) (IsPart.int _ _) rfl ?_ (by with_unfolding_all rfl) (by kmk_pure) (by unfold sizeLine; simp only [List.size_toArray]; omega); k_whole; intro Dzz9 hzz9 Fzz9 Nzz9 l1zz9; (try k_lt l1zz9); (try k_sweep)) | ((with_reducible show wpAny _ _ (call (Value.type _) [Value.ref _]) _ _ _); refine enum_call (by k_asm) (by k_asm) (by assumption) ?_; k_whole; intro hzz9 ezz9 Fzz9 Nzz9 hezz9; (try k_sweep)) | ((with_reducible show wpAny _ _ (subscriptTail _ _ (Value.ref _) (Value.int _ _)) _ _ _); first | (refine item_tupleT (Fr.tup (by k_asm) (by assumption)) (by decide) (by decide) (by rfl) (by rfl) ?_; k_whole) | ((with_reducible show wpAny _ _ (subscriptTail _ _ (Value.ref _) (Value.int 0 _)) _ _ _); refine itemT_head (by k_asm) (by assumption) ?_; k_whole) | (refine itemL_at (by k_asm) (by assumption) (by first | assumption | rfl) (by ktr_units) (by ktr_units) ?_; k_whole)) | ((with_reducible show wpAny _ _ (call (Value.builtin "len") [Value.ref _]) _ _ _); refine PyProof.Rows.len_list (Fr.lst (by k_asm) (by assumption)) (by ktr_units) ?_; k_whole) | ((with_reducible show wpAny _ _ (spliced _) _ _ _); refine' args_plain ?qSS ?qFF ?qkk ?qPP ?_; (case qSS => rfl); (case qFF => k_asm); (case qkk => rfl); (case qPP => repeat' first | exact Plain.nil | (apply Plain.name; exact rfl; exact rfl; decide) | apply Plain.none | apply Plain.bool | apply Plain.int | apply Plain.str); k_whole; (try dsimp only [List.cons_append, List.nil_append])) | walk1) <;> first | (with_reducible show wpAny _ _ (subscriptTail _ (PySem.Expr.Slice _ _ _ _) _ _) _ _ _) | (try dsimp only)) | (dsimp only; walk1) | (leave1; try dsimp only) | fail "no step"))
        rename Fr _ _ _ _ => F₄; rename News _ _ _ _ => N₄
        have q4 := kk3 _ _ _ F₄ N₄ (fun p hp => .tail _ (.tail _ hp))
        have hc4 := N₄ (L' + 1 + 1, o3) (.tail _ (.head _))
        have hl4 := N₄ (D, LCg.lst ys) (.head _)
        refine hide (fun P9 toP9 => ?_)
        obtain ⟨D4, N4, -, hDD4⟩ := refresh F₄ News.nil
        (refine toP9 ?_; clear toP9 P9)
        have N4' := news_cons (p := (D, LCg.lst ys)) hl4 (news_cons (p := (L' + 1 + 1, o3)) hc4 N4)
        have k45 : ∀ h' m' news', Fr g L' h' m' → News g L' h' news' → (∀ p ∈ D4, p ∈ news') → ∀ b o, Heap.get? _ b = some o → b ≠ L' → h'.get? b = some o := fun _ _ _ a b c => keepAll_of hDD4 a b c
        clear hDD4 N₄ N4
        refine Assign_Comp_E F₄ (fun H i' zs hh => PairsL hh zs (rpts i j i') ∧ ∀ b o, H.get? b = some o → b ≠ L' → hh.get? b = some o) ?stab5 (by with_unfolding_all rfl) (by with_unfolding_all rfl) (by decide) (by rfl) (by decide) rfl rfl ?_
        case stab5 => exact fun i' ys zs h h' C D mC F hC hD hC₀ hD₀ hJ kc => ⟨keepC_pairsL F hC hD kc hJ.1, keepC_old hC₀ hD₀ hJ.2 kc⟩
        (repeat' ((fail_if_success (with_reducible refine stop_at (by first | (constructor; done) | exact .call (by decide)) ?_)); first | (k_unfold; (try dsimp only)) | (k_end; wrow_close) | ((first | ((with_reducible show wpAny _ _ (subscriptTail _ (PySem.Expr.Slice none none (some _) _) (Value.ref _) (Value.ref _)) _ _ _); refine krv_lit (its := List.toArray _) (zs := List.reverse _) (by k_asm) (by k_asm) (News.isList (by k_asm) (by k_mem)) (IsPart.int _ _) rfl ?_ (by with_unfolding_all rfl) (by kmk_pure) (by unfold sizeLine; simp only [List.size_toArray]; omega); k_whole; intro Dzz9 hzz9 Fzz9 Nzz9 l1zz9; (try k_lt l1zz9); (try k_sweep)) | ((with_reducible show wpAny _ _ (call (Value.type _) [Value.ref _]) _ _ _); refine enum_call (by k_asm) (by k_asm) (by assumption) ?_; k_whole; intro hzz9 ezz9 Fzz9 Nzz9 hezz9; (try k_sweep)) | ((with_reducible show wpAny _ _ (subscriptTail _ _ (Value.ref _) (Value.int _ _)) _ _ _); first | (refine item_tupleT (Fr.tup (by k_asm) (by assumption)) (by decide) (by decide) (by rfl) (by rfl) ?_; k_whole) | ((with_reducible show wpAny _ _ (subscriptTail _ _ (Value.ref _) (Value.int 0 _)) _ _ _); refine itemT_head (by k_asm) (by assumption) ?_; k_whole) | (refine itemL_at (by k_asm) (by assumption) (by first | assumption | rfl) (by ktr_units) (by ktr_units) ?_; k_whole)) | ((with_reducible show wpAny _ _ (call (Value.builtin "len") [Value.ref _]) _ _ _); refine PyProof.Rows.len_list (Fr.lst (by k_asm) (by assumption)) (by ktr_units) ?_; k_whole) | ((with_reducible show wpAny _ _ (spliced _) _ _ _); refine' args_plain ?qSS ?qFF ?qkk ?qPP ?_; (case qSS => rfl); (case qFF => k_asm); (case qkk => rfl); (case qPP => repeat' first | exact Plain.nil | (apply Plain.name; exact rfl; exact rfl; decide) | apply Plain.none | apply Plain.bool | apply Plain.int | apply Plain.str); k_whole; (try dsimp only [List.cons_append, List.nil_append])) | walk1) <;> first | (with_reducible show wpAny _ _ (subscriptTail _ (PySem.Expr.Slice _ _ _ _) _ _) _ _ _) | (try dsimp only)) | (dsimp only; walk1) | (leave1; try dsimp only) | fail "no step"))
        rename IsRange _ _ _ _ _ _ _ _ => hR3; rename Fr _ _ _ _ => F₅; rename News _ _ _ _ => N₅
        have k5 := k45 _ _ _ F₅ N₅ (fun p hp => .tail _ (.tail _ hp))
        refine wpAny_pyIter_range hR3 (small_from (n := dvs.length) (j := j) (by omega) (by omega)) ?_
        rw [show Builtin.Range.rangeSize (j : Int) (dvs.length : Int) 1 = ((dvs.length - j : Nat) : Int) from size_from (n := dvs.length) (by omega) (by omega)]
        refine ⟨dvs.length - j, compE_range rfl F₅ (fun b o e hb q => by rw [k5 b o e hb] at q; cases q) rfl rfl (by unfold sizeLine; omega) (fun h' kh => ⟨.nil, fun b o e hb => kh _ _ (k5 b o e hb)⟩) j 1 ?el5, ?after5⟩
        case el5 =>
          intro C D' i' hh tkh zs mC R hi' hy ⟨tt, hm1⟩ F₆ hC hD' n1 n2 n3 n4 n5 hC₀ hD₀ hJ
          refine hide (fun P9 toP9 => ?_)
          rw [show ((j : Int) + (i' : Int) * 1) = (j : Int) + (i' : Int) by omega] at hm1
          obtain ⟨oC, hoC, nC⟩ := LCg.ns_obj hC
          have hc6 := hJ.2 _ _ hc4.1 hc4.2.1
          obtain ⟨D6, N6, -, hDD6⟩ := refresh F₆ News.nil
          have N₆ := news_cons (p := (C, oC)) ⟨hoC, Ne.symm n2, n4⟩ (news_cons (p := (D', LCg.lst zs)) ⟨hD', Ne.symm n3, n5⟩ (news_cons (p := (L' + 1 + 1, o3)) ⟨hc6, hc4.2⟩ N6))
          have k6 : ∀ h' m' news', Fr g L' h' m' → News g L' h' news' → (∀ p ∈ D6, p ∈ news') → ∀ b o, hh.get? b = some o → b ≠ L' → h'.get? b = some o := fun _ _ _ a b c => keepAll_of hDD6 a b c
          have ki6 := fun h' => keepIt_all (h' := h') F₆
          have kp6 := fun h' (q : ∀ b o, hh.get? b = some o → b ≠ L' → h'.get? b = some o) => pairsL_keeps (h' := h') F₆ (fun x o e hx _ => q x o e hx) hJ.1
          clear hDD6 N6 F₅ N₅
          (refine toP9 ?_; clear toP9 P9)
          (try dsimp only)
          (repeat' ((fail_if_success (with_reducible refine stop_at (by first | (constructor; done) | exact .call (by decide)) ?_)); first | (k_unfold; (try dsimp only)) | (k_end; wrow_close) | ((first | ((with_reducible show wpAny _ _ (subscriptTail _ (PySem.Expr.Slice none none (some _) _) (Value.ref _) (Value.ref _)) _ _ _); refine krv_lit (its := List.toArray _) (zs := List.reverse _) (by k_asm) (by k_asm) (News.isList (by k_asm) (by k_mem)) (IsPart.int _ _) rfl ?_ (by with_unfolding_all rfl) (by kmk_pure) (by unfold sizeLine; simp only [List.size_toArray]; omega); k_whole; intro Dzz9 hzz9 Fzz9 Nzz9 l1zz9; (try k_lt l1zz9); (try k_sweep)) | ((with_reducible show wpAny _ _ (call (Value.type _) [Value.ref _]) _ _ _); refine enum_call (by k_asm) (by k_asm) (by assumption) ?_; k_whole; intro hzz9 ezz9 Fzz9 Nzz9 hezz9; (try k_sweep)) | ((with_reducible show wpAny _ _ (subscriptTail _ _ (Value.ref _) (Value.int _ _)) _ _ _); first | (refine item_tupleT (Fr.tup (by k_asm) (by assumption)) (by decide) (by decide) (by rfl) (by rfl) ?_; k_whole) | ((with_reducible show wpAny _ _ (subscriptTail _ _ (Value.ref _) (Value.int 0 _)) _ _ _); refine itemT_head (by k_asm) (by assumption) ?_; k_whole) | (refine itemL_at (by k_asm) (by assumption) (by first | assumption | rfl) (by ktr_units) (by ktr_units) ?_; k_whole)) | ((with_reducible show wpAny _ _ (call (Value.builtin "len") [Value.ref _]) _ _ _); refine PyProof.Rows.len_list (Fr.lst (by k_asm) (by assumption)) (by ktr_units) ?_; k_whole) | ((with_reducible show wpAny _ _ (spliced _) _ _ _); refine' args_plain ?qSS ?qFF ?qkk ?qPP ?_; (case qSS => rfl); (case qFF => k_asm); (case qkk => rfl); (case qPP => repeat' first | exact Plain.nil | (apply Plain.name; exact rfl; exact rfl; decide) | apply Plain.none | apply Plain.bool | apply Plain.int | apply Plain.str); k_whole; (try dsimp only [List.cons_append, List.nil_append])) | walk1) <;> first | (with_reducible show wpAny _ _ (subscriptTail _ (PySem.Expr.Slice _ _ _ _) _ _) _ _ _) | (try dsimp only)) | (dsimp only; walk1) | (leave1; try dsimp only) | fail "no step"))
          rename Fr _ _ _ _ => F₇; rename News _ _ _ _ => N₇
          have q7 := k6 _ _ _ F₇ N₇ (fun p hp => .tail _ (.tail _ (.tail _ (.tail _ hp))))
          refine ⟨_, _, mC, rfl, F₇, nC.ns (N₇.get (.tail _ (.head _))), N₇.get (.tail _ (.tail _ (.head _))), ki6 _ q7, ?_, fun b o e hb => q7 b o (hJ.2 b o e hb) hb⟩
          rw [rpts_succ]
          exact (kp6 _ q7).append (.cons (N₇.isTup (.head _)) .nil)
        case after5 =>
          intro D' h3' tk3 zs hy F₇ hD' e1 e2 e3 hJ
          refine hide (fun P9 toP9 => ?_)
          have q27 : ∀ b o, h2.get? b = some o → b ≠ L' → h3'.get? b = some o := fun b o e hb => hJ.2 b o (q4 b o e hb) hb
          have hDl7 := q27 _ _ hDl nDL
          have hc7 := q27 _ _ ho3 c9.2.1
          obtain ⟨D7, N7, -, hDD7⟩ := refresh F₇ News.nil
          have N₇ := news_cons (p := (D', LCg.lst zs)) ⟨hD', e2, e1⟩ (news_cons (p := (D, LCg.lst ys)) ⟨hDl7, nDL, g2⟩ (news_cons (p := (L' + 1 + 1, o3)) ⟨hc7, c9.2⟩ N7))
          have k7 : ∀ h' m' news', Fr g L' h' m' → News g L' h' news' → (∀ p ∈ D7, p ∈ news') → ∀ b o, h3'.get? b = some o → b ≠ L' → h'.get? b = some o := fun _ _ _ a b c => keepAll_of hDD7 a b c
          have kz7 := fun h' (q : ∀ b o, h3'.get? b = some o → b ≠ L' → h'.get? b = some o) => pairsL_keeps (h' := h') F₇ (fun x o e hx _ => q x o e hx) hJ.1
          have hzl : zs.length ≤ 5 := by omega
          clear hDD7 N7; (try clear F₅); (try clear N₅); (try clear F₄); (try clear N4')
          (refine toP9 ?_; clear toP9 P9)
          (try dsimp only)
          (repeat' ((fail_if_success (with_reducible refine stop_at (by first | (constructor; done) | exact .call (by decide)) ?_)); first | (k_unfold; (try dsimp only)) | (k_end; wrow_close) | ((first | ((with_reducible show wpAny _ _ (subscriptTail _ (PySem.Expr.Slice none none (some _) _) (Value.ref _) (Value.ref _)) _ _ _); refine krv_lit (its := List.toArray _) (zs := List.reverse _) (by k_asm) (by k_asm) (News.isList (by k_asm) (by k_mem)) (IsPart.int _ _) rfl ?_ (by with_unfolding_all rfl) (by kmk_pure) (by unfold sizeLine; simp only [List.size_toArray]; omega); k_whole; intro Dzz9 hzz9 Fzz9 Nzz9 l1zz9; (try k_lt l1zz9); (try k_sweep)) | ((with_reducible show wpAny _ _ (call (Value.type _) [Value.ref _]) _ _ _); refine enum_call (by k_asm) (by k_asm) (by assumption) ?_; k_whole; intro hzz9 ezz9 Fzz9 Nzz9 hezz9; (try k_sweep)) | ((with_reducible show wpAny _ _ (subscriptTail _ _ (Value.ref _) (Value.int _ _)) _ _ _); first | (refine item_tupleT (Fr.tup (by k_asm) (by assumption)) (by decide) (by decide) (by rfl) (by rfl) ?_; k_whole) | ((with_reducible show wpAny _ _ (subscriptTail _ _ (Value.ref _) (Value.int 0 _)) _ _ _); refine itemT_head (by k_asm) (by assumption) ?_; k_whole) | (refine itemL_at (by k_asm) (by assumption) (by first | assumption | rfl) (by ktr_units) (by ktr_units) ?_; k_whole)) | ((with_reducible show wpAny _ _ (call (Value.builtin "len") [Value.ref _]) _ _ _); refine PyProof.Rows.len_list (Fr.lst (by k_asm) (by assumption)) (by ktr_units) ?_; k_whole) | ((with_reducible show wpAny _ _ (spliced _) _ _ _); refine' args_plain ?qSS ?qFF ?qkk ?qPP ?_; (case qSS => rfl); (case qFF => k_asm); (case qkk => rfl); (case qPP => repeat' first | exact Plain.nil | (apply Plain.name; exact rfl; exact rfl; decide) | apply Plain.none | apply Plain.bool | apply Plain.int | apply Plain.str); k_whole; (try dsimp only [List.cons_append, List.nil_append])) | walk1) <;> first | (with_reducible show wpAny _ _ (subscriptTail _ (PySem.Expr.Slice _ _ _ _) _ _) _ _ _) | (try dsimp only)) | (dsimp only; walk1) | (leave1; try dsimp only) | fail "no step"))
          rename Fr _ _ _ _ => F₈; rename News _ _ _ _ => N₈
          refine add_lists (vs := ys) (ws := zs.reverse) F₈ N₈ (N₈.isList (.tail _ (.tail _ (.head _)))) (N₈.isList (.head _)) ?_ (by rw [List.length_reverse]; unfold sizeLine; omega)
          intro h8 F₉ N₉
          clear F₈ N₈
          (try dsimp only)
          (repeat' ((fail_if_success (with_reducible refine stop_at (by first | (constructor; done) | exact .call (by decide)) ?_)); first | (k_unfold; (try dsimp only)) | (k_end; wrow_close) | ((first | ((with_reducible show wpAny _ _ (subscriptTail _ (PySem.Expr.Slice none none (some _) _) (Value.ref _) (Value.ref _)) _ _ _); refine krv_lit (its := List.toArray _) (zs := List.reverse _) (by k_asm) (by k_asm) (News.isList (by k_asm) (by k_mem)) (IsPart.int _ _) rfl ?_ (by with_unfolding_all rfl) (by kmk_pure) (by unfold sizeLine; simp only [List.size_toArray]; omega); k_whole; intro Dzz9 hzz9 Fzz9 Nzz9 l1zz9; (try k_lt l1zz9); (try k_sweep)) | ((with_reducible show wpAny _ _ (call (Value.type _) [Value.ref _]) _ _ _); refine enum_call (by k_asm) (by k_asm) (by assumption) ?_; k_whole; intro hzz9 ezz9 Fzz9 Nzz9 hezz9; (try k_sweep)) | ((with_reducible show wpAny _ _ (subscriptTail _ _ (Value.ref _) (Value.int _ _)) _ _ _); first | (refine item_tupleT (Fr.tup (by k_asm) (by assumption)) (by decide) (by decide) (by rfl) (by rfl) ?_; k_whole) | ((with_reducible show wpAny _ _ (subscriptTail _ _ (Value.ref _) (Value.int 0 _)) _ _ _); refine itemT_head (by k_asm) (by assumption) ?_; k_whole) | (refine itemL_at (by k_asm) (by assumption) (by first | assumption | rfl) (by ktr_units) (by ktr_units) ?_; k_whole)) | ((with_reducible show wpAny _ _ (call (Value.builtin "len") [Value.ref _]) _ _ _); refine PyProof.Rows.len_list (Fr.lst (by k_asm) (by assumption)) (by ktr_units) ?_; k_whole) | ((with_reducible show wpAny _ _ (spliced _) _ _ _); refine' args_plain ?qSS ?qFF ?qkk ?qPP ?_; (case qSS => rfl); (case qFF => k_asm); (case qkk => rfl); (case qPP => repeat' first | exact Plain.nil | (apply Plain.name; exact rfl; exact rfl; decide) | apply Plain.none | apply Plain.bool | apply Plain.int | apply Plain.str); k_whole; (try dsimp only [List.cons_append, List.nil_append])) | walk1) <;> first | (with_reducible show wpAny _ _ (subscriptTail _ (PySem.Expr.Slice _ _ _ _) _ _) _ _ _) | (try dsimp only)) | (dsimp only; walk1) | (leave1; try dsimp only) | fail "no step"))
          rename Fr _ _ _ _ => F₈; rename News _ _ _ _ => N₈
          refine tuple_ofL (vs := ys ++ zs.reverse) F₈ N₈ (N₈.isList (.head _)) ?_ (by rw [List.length_append, List.length_reverse]; unfold sizeLine; omega)
          intro T10 h10 F₁₀ N₁₀ _
          clear F₈ N₈
          (try dsimp only)
          (repeat' ((fail_if_success (with_reducible refine stop_at (by first | (constructor; done) | exact .call (by decide)) ?_)); first | (k_unfold; (try dsimp only)) | (k_end; wrow_close) | ((first | ((with_reducible show wpAny _ _ (subscriptTail _ (PySem.Expr.Slice none none (some _) _) (Value.ref _) (Value.ref _)) _ _ _); refine krv_lit (its := List.toArray _) (zs := List.reverse _) (by k_asm) (by k_asm) (News.isList (by k_asm) (by k_mem)) (IsPart.int _ _) rfl ?_ (by with_unfolding_all rfl) (by kmk_pure) (by unfold sizeLine; simp only [List.size_toArray]; omega); k_whole; intro Dzz9 hzz9 Fzz9 Nzz9 l1zz9; (try k_lt l1zz9); (try k_sweep)) | ((with_reducible show wpAny _ _ (call (Value.type _) [Value.ref _]) _ _ _); refine enum_call (by k_asm) (by k_asm) (by assumption) ?_; k_whole; intro hzz9 ezz9 Fzz9 Nzz9 hezz9; (try k_sweep)) | ((with_reducible show wpAny _ _ (subscriptTail _ _ (Value.ref _) (Value.int _ _)) _ _ _); first | (refine item_tupleT (Fr.tup (by k_asm) (by assumption)) (by decide) (by decide) (by rfl) (by rfl) ?_; k_whole) | ((with_reducible show wpAny _ _ (subscriptTail _ _ (Value.ref _) (Value.int 0 _)) _ _ _); refine itemT_head (by k_asm) (by assumption) ?_; k_whole) | (refine itemL_at (by k_asm) (by assumption) (by first | assumption | rfl) (by ktr_units) (by ktr_units) ?_; k_whole)) | ((with_reducible show wpAny _ _ (call (Value.builtin "len") [Value.ref _]) _ _ _); refine PyProof.Rows.len_list (Fr.lst (by k_asm) (by assumption)) (by ktr_units) ?_; k_whole) | ((with_reducible show wpAny _ _ (spliced _) _ _ _); refine' args_plain ?qSS ?qFF ?qkk ?qPP ?_; (case qSS => rfl); (case qFF => k_asm); (case qkk => rfl); (case qPP => repeat' first | exact Plain.nil | (apply Plain.name; exact rfl; exact rfl; decide) | apply Plain.none | apply Plain.bool | apply Plain.int | apply Plain.str); k_whole; (try dsimp only [List.cons_append, List.nil_append])) | walk1) <;> first | (with_reducible show wpAny _ _ (subscriptTail _ (PySem.Expr.Slice _ _ _ _) _ _) _ _ _) | (try dsimp only)) | (dsimp only; walk1) | (leave1; try dsimp only) | fail "no step"))
          rename Fr _ _ _ _ => F₈; rename News _ _ _ _ => N₈
          refine add_tups (ws := ys ++ zs.reverse) F₈ N₈ (F₈.tup het) (N₈.isTup (.head _)) (by have := hew.len; rw [List.length_append, List.length_reverse]; unfold sizeLine; omega) ?_
          intro r9 h9 F₉ N₉ hr9
          refine hide (fun P9 toP9 => ?_)
          have q9 := k7 _ _ _ F₉ N₉ (fun p hp => .tail _ (.tail _ (.tail _ (.tail _ (.tail _ (.tail _ hp))))))
          have q29 : ∀ b o, h2.get? b = some o → b ≠ L' → h9.get? b = some o := fun b o e hb => q9 b o (q27 b o e hb) hb
          have hp9 : PairsAt h9 (.ref r9) ((ps ++ joinE fs (uniq gs)) ++ dpts i c (c + 1 - j)) := by
            have z := kz7 _ q9
            rw [show dvs.length - j = c + 1 - j by omega] at z
            rw [← rpts_rev (by omega : j ≤ c), List.append_assoc]
            exact ⟨_, _, rfl, hr9, (hew.mono F₉.keep).append ((kp3 _ q29).append z.rev)⟩
          have hD9 := kd3 _ q29
          have kt9 := ki3 _ q29
          have hc9 := q29 _ _ ho3 c9.2.1
          have hl9 := q29 _ _ hDl nDL
          have h89 := q29 _ _ h83 c8.2.1
          obtain ⟨D9, N9, -, hDD9⟩ := refresh F₉ News.nil
          have N9' := news_cons (p := (L' + 1 + 1, o3)) ⟨hc9, c9.2⟩ N9
          have kk9 : ∀ h' m' news', Fr g L' h' m' → News g L' h' news' → (∀ p ∈ D9, p ∈ news') → ∀ b o, h9.get? b = some o → b ≠ L' → h'.get? b = some o := fun _ _ _ a b c => keepAll_of hDD9 a b c
          have ki9 := fun h' => keepIt_all (h' := h') F₉
          have kd9 := fun h' (q : ∀ b o, h9.get? b = some o → b ≠ L' → h'.get? b = some o) => dat_keeps (h' := h') F₉ hdL (fun x o e hx _ => q x o e hx) hD9
          have kp9 := fun h' (q : ∀ b o, h9.get? b = some o → b ≠ L' → h'.get? b = some o) => pairs_keeps (h' := h') F₉ (fun x o e hx _ => q x o e hx) hp9
          have kpl9 := fun h' (q : ∀ b o, h9.get? b = some o → b ≠ L' → h'.get? b = some o) => pairsL_keeps (h' := h') F₉ (fun x o e hx _ => q x o e hx) (kp3 _ q29)
          (try clear hDD9); (try clear F₈); (try clear N₈); (try clear N₉); (try clear N9); (try clear F₇); (try clear N₇); (try clear q9); (try clear k7)
          (refine toP9 ?_; clear toP9 P9)
          (try dsimp only)
          (repeat' ((fail_if_success (with_reducible refine stop_at (by first | (constructor; done) | exact .call (by decide)) ?_)); first | (k_unfold; (try dsimp only)) | (k_end; wrow_close) | ((first | ((with_reducible show wpAny _ _ (subscriptTail _ (PySem.Expr.Slice none none (some _) _) (Value.ref _) (Value.ref _)) _ _ _); refine krv_lit (its := List.toArray _) (zs := List.reverse _) (by k_asm) (by k_asm) (News.isList (by k_asm) (by k_mem)) (IsPart.int _ _) rfl ?_ (by with_unfolding_all rfl) (by kmk_pure) (by unfold sizeLine; simp only [List.size_toArray]; omega); k_whole; intro Dzz9 hzz9 Fzz9 Nzz9 l1zz9; (try k_lt l1zz9); (try k_sweep)) | ((with_reducible show wpAny _ _ (call (Value.type _) [Value.ref _]) _ _ _); refine enum_call (by k_asm) (by k_asm) (by assumption) ?_; k_whole; intro hzz9 ezz9 Fzz9 Nzz9 hezz9; (try k_sweep)) | ((with_reducible show wpAny _ _ (subscriptTail _ _ (Value.ref _) (Value.int _ _)) _ _ _); first | (refine item_tupleT (Fr.tup (by k_asm) (by assumption)) (by decide) (by decide) (by rfl) (by rfl) ?_; k_whole) | ((with_reducible show wpAny _ _ (subscriptTail _ _ (Value.ref _) (Value.int 0 _)) _ _ _); refine itemT_head (by k_asm) (by assumption) ?_; k_whole) | (refine itemL_at (by k_asm) (by assumption) (by first | assumption | rfl) (by ktr_units) (by ktr_units) ?_; k_whole)) | ((with_reducible show wpAny _ _ (call (Value.builtin "len") [Value.ref _]) _ _ _); refine PyProof.Rows.len_list (Fr.lst (by k_asm) (by assumption)) (by ktr_units) ?_; k_whole) | ((with_reducible show wpAny _ _ (spliced _) _ _ _); refine' args_plain ?qSS ?qFF ?qkk ?qPP ?_; (case qSS => rfl); (case qFF => k_asm); (case qkk => rfl); (case qPP => repeat' first | exact Plain.nil | (apply Plain.name; exact rfl; exact rfl; decide) | apply Plain.none | apply Plain.bool | apply Plain.int | apply Plain.str); k_whole; (try dsimp only [List.cons_append, List.nil_append])) | walk1) <;> first | (with_reducible show wpAny _ _ (subscriptTail _ (PySem.Expr.Slice _ _ _ _) _ _) _ _ _) | (try dsimp only)) | (dsimp only; walk1) | (leave1; try dsimp only) | fail "no step"))
          rename Fr _ _ _ _ => F₄; rename News _ _ _ _ => N₄
          have q4 := kk9 _ _ _ F₄ N₄ (fun p hp => .tail _ (.tail _ hp))
          have hl4 : (bbE ps cs ggs fs i ++ bbB i (ps ++ joinE fs (uniq gs)) c j).length < 1000 := by
            have := bbE_len (ps := ps) (ggs := ggs) (fs := fs) hR.2.2.1 i
            rw [List.length_append, bbB_len]; omega
          have hD4 := kd9 _ q4
          refine dat_set (ps := (ps ++ joinE fs (uniq gs)) ++ dpts i c (c + 1 - j)) (by ktr_room) hD4 (N₄.isTup (.head _)) (kp9 _ q4) bbE_fresh hl4 ?_
          intro h5 tk5 hD5 hs5
          refine hide (fun P9 toP9 => ?_)
          have F₅ := F₄.change hs5 hdL hdg
          have hcL4 := N₄ (L' + 1 + 1, o3) (.tail _ (.head _))
          have hc5 := pairs_cell hD4 hs5 hcL4.1 hd3
          have h85 := pairs_cell hD4 hs5 (q4 _ _ h89 c8.2.1) d8
          have hl5 := lst_set hD4 hs5 (q4 _ _ hl9 nDL)
          have hpl5 := pairsL_set hD4 hs5 (kpl9 _ q4)
          have kt5 := kt9.trans ((ki9 _ q4).trans (keepIt_set hD4 hs5))
          obtain ⟨D5, N5, -, hD55⟩ := refresh F₅ News.nil
          have N5' := news_cons (p := (L' + 1 + 1, o3)) ⟨hc5, c9.2⟩ N5
          have kk5 : ∀ h' m' news', Fr g L' h' m' → News g L' h' news' → (∀ p ∈ D5, p ∈ news') → ∀ b o, h5.get? b = some o → b ≠ L' → h'.get? b = some o := fun _ _ _ a b c => keepAll_of hD55 a b c
          have ki5 := fun h' => keepIt_all (h' := h') F₅
          have kd5 := fun h' (q : ∀ b o, h5.get? b = some o → b ≠ L' → h'.get? b = some o) => dat_keeps (h' := h') F₅ hdL (fun x o e hx _ => q x o e hx) hD5
          have kpl5 := fun h' (q : ∀ b o, h5.get? b = some o → b ≠ L' → h'.get? b = some o) => pairsL_keeps (h' := h') F₅ (fun x o e hx _ => q x o e hx) hpl5
          (try clear hD55); (try clear F₄); (try clear N₄); (try clear F₉); (try clear q4); (try clear hD4); (try clear N9')
          (refine toP9 ?_; clear toP9 P9)
          (try dsimp only)
          (repeat' ((fail_if_success (with_reducible refine stop_at (by first | (constructor; done) | exact .call (by decide)) ?_)); first | (k_unfold; (try dsimp only)) | (k_end; wrow_close) | ((first | ((with_reducible show wpAny _ _ (subscriptTail _ (PySem.Expr.Slice none none (some _) _) (Value.ref _) (Value.ref _)) _ _ _); refine krv_lit (its := List.toArray _) (zs := List.reverse _) (by k_asm) (by k_asm) (News.isList (by k_asm) (by k_mem)) (IsPart.int _ _) rfl ?_ (by with_unfolding_all rfl) (by kmk_pure) (by unfold sizeLine; simp only [List.size_toArray]; omega); k_whole; intro Dzz9 hzz9 Fzz9 Nzz9 l1zz9; (try k_lt l1zz9); (try k_sweep)) | ((with_reducible show wpAny _ _ (call (Value.type _) [Value.ref _]) _ _ _); refine enum_call (by k_asm) (by k_asm) (by assumption) ?_; k_whole; intro hzz9 ezz9 Fzz9 Nzz9 hezz9; (try k_sweep)) | ((with_reducible show wpAny _ _ (subscriptTail _ _ (Value.ref _) (Value.int _ _)) _ _ _); first | (refine item_tupleT (Fr.tup (by k_asm) (by assumption)) (by decide) (by decide) (by rfl) (by rfl) ?_; k_whole) | ((with_reducible show wpAny _ _ (subscriptTail _ _ (Value.ref _) (Value.int 0 _)) _ _ _); refine itemT_head (by k_asm) (by assumption) ?_; k_whole) | (refine itemL_at (by k_asm) (by assumption) (by first | assumption | rfl) (by ktr_units) (by ktr_units) ?_; k_whole)) | ((with_reducible show wpAny _ _ (call (Value.builtin "len") [Value.ref _]) _ _ _); refine PyProof.Rows.len_list (Fr.lst (by k_asm) (by assumption)) (by ktr_units) ?_; k_whole) | ((with_reducible show wpAny _ _ (spliced _) _ _ _); refine' args_plain ?qSS ?qFF ?qkk ?qPP ?_; (case qSS => rfl); (case qFF => k_asm); (case qkk => rfl); (case qPP => repeat' first | exact Plain.nil | (apply Plain.name; exact rfl; exact rfl; decide) | apply Plain.none | apply Plain.bool | apply Plain.int | apply Plain.str); k_whole; (try dsimp only [List.cons_append, List.nil_append])) | walk1) <;> first | (with_reducible show wpAny _ _ (subscriptTail _ (PySem.Expr.Slice _ _ _ _) _ _) _ _ _) | (try dsimp only)) | (dsimp only; walk1) | (leave1; try dsimp only) | fail "no step"))
          (try dsimp only)
          rename Fr _ _ _ _ => F₉; rename News _ _ _ _ => N₉
          have q9 := kk5 _ _ _ F₉ N₉ (fun _ h => .tail _ h)
          have kt9 := kt5.trans (ki5 _ q9)
          refine ⟨_, _, _, rfl, F₉, kt9, ?_, ?_, ⟨_, N₉.get (.head _), hd3⟩, q9 _ _ h85 c8.2.1, q9 _ _ hl5 nDL, kpl5 _ q9, kt2.trans kt9⟩
          · intro y hy
            simp only [List.mem_cons, List.not_mem_nil, or_false, not_or] at hy
            simp only [pick, hy, if_false]
          · rw [bbB_succ, ← List.append_assoc]
            exact kd5 _ q9
/-- every tuple is kept -/
def KeepTup (h h' : Heap) : Prop := ∀ b vs n, h.get? b = some (tupObj vs n) → h'.get? b = some (tupObj vs n)
theorem KeepTup.trans {a b c : Heap} (x : KeepTup a b) (y : KeepTup b c) : KeepTup a c := fun p vs n e => y p vs n (x p vs n e)
theorem KeepTup.of {h h' : Heap} {bad : List Addr} (k : ∀ b o, h.get? b = some o → b ∉ bad → h'.get? b = some o) (hb : ∀ b ∈ bad, ∀ vs n, h.get? b ≠ some (tupObj vs n)) : KeepTup h h' := fun b vs n e => k b _ e fun q => hb b q vs n e
theorem StmtAt.tup {h h' : Heap} (k : KeepTup h h') {a b : Value} (x : StmtAt h a b) : StmtAt h' a b := by
  cases x with
  | ref h1 h2 h3 => exact .ref (k _ _ _ h1) (k _ _ _ h2) (k _ _ _ h3)
  | disc h1 h2 h3 => exact .disc (k _ _ _ h1) (k _ _ _ h2) (k _ _ _ h3)
  | use h1 h2 x1 x2 h3 => exact .use (k _ _ _ h1) (k _ _ _ h2) x1 x2 (k _ _ _ h3)
  | other h1 x1 x2 x3 h3 => exact .other (k _ _ _ h1) x1 x2 x3 (k _ _ _ h3)
  | room h1 x1 h3 => exact .room (k _ _ _ h1) x1 (k _ _ _ h3)
theorem TermAt.tup {h h' : Heap} (k : KeepTup h h') {a b : Value} {gs : List Int} (x : TermAt h a b gs) : TermAt h' a b gs := by
  cases x with
  | goto h1 h2 => exact .goto (k _ _ _ h1) (k _ _ _ h2)
  | switch2 h1 h2 h3 h4 h5 => exact .switch2 (k _ _ _ h1) (k _ _ _ h2) (k _ _ _ h3) (k _ _ _ h4) (k _ _ _ h5)
  | switch3 h1 h2 h3 h4 h5 => exact .switch3 (k _ _ _ h1) (k _ _ _ h2) (k _ _ _ h3) (k _ _ _ h4) (k _ _ _ h5)
  | call0 h1 h2 => exact .call0 (k _ _ _ h1) (k _ _ _ h2)
  | call1 h1 h2 => exact .call1 (k _ _ _ h1) (k _ _ _ h2)
  | drop h1 h2 => exact .drop (k _ _ _ h1) (k _ _ _ h2)
  | assert h1 h2 => exact .assert (k _ _ _ h1) (k _ _ _ h2)
  | other h1 x1 x2 x3 x4 x5 h2 => exact .other (k _ _ _ h1) x1 x2 x3 x4 x5 (k _ _ _ h2)
theorem PairAt.tup {h h' : Heap} (k : KeepTup h h') {r : Addr} (x : PairAt h r) : PairAt h' r := let ⟨sv, dv, n, e, q⟩ := x; ⟨sv, dv, n, k _ _ _ e, q.tup k⟩
theorem ns_no_tup {h : Heap} {L : Addr} {m : Str → Option Value} (x : h.Ns L m) (vs : List Value) (n : Nat) : h.get? L ≠ some (tupObj vs n) := fun e => by
  refine hide (fun P9 toP9 => ?_)
  obtain ⟨o', es, ep, e', hd', _⟩ := x
  (refine toP9 ?_; clear toP9 P9)
  rw [e] at e'; cases e'
  cases hd'
theorem lst_no_tup {h : Heap} {a : Addr} {ys : List Value} {n : Nat} (x : h.get? a = some (listOf (List.toArray ys) n)) (vs : List Value) (k : Nat) : h.get? a ≠ some (tupObj vs k) := fun e => by
  rw [x] at e
  have h1 := congrArg Obj.cls (Option.some.inj e)
  have h2 : Value.type "list" = Value.type "tuple" := h1
  simp at h2
theorem src_no_tup {h : Heap} {a : Addr} (x : SrcOk h a) (vs : List Value) (k : Nat) : h.get? a ≠ some (tupObj vs k) := by
  refine hide (fun P9 toP9 => ?_)
  obtain ⟨o, ho, p, q, t1, t2, n, rfl⟩ := x
  (refine toP9 ?_; clear toP9 P9)
  exact lst_no_tup (ys := [_, _]) ho vs k
theorem cell_no_tup {h : Heap} {a : Addr} {o : Obj} {v : Option Value} (x : h.get? a = some o) (hd : o.data = .cell v) (vs : List Value) (k : Nat) : h.get? a ≠ some (tupObj vs k) := fun e => by
  rw [x] at e; cases e
  cases hd
/-- one block as it was built, away from what changes -/
def BlkX (bad : List Addr) (h : Heap) (many : Int) (bv rv gv : Value) : Prop := ∃ bk sl tv svs rw dvs dend gl gs gvs, (bk ∉ bad ∧ sl ∉ bad ∧ rw ∉ bad ∧ gl ∉ bad) ∧ bv = .ref bk ∧ h.IsList bk [.ref sl, tv].toArray ∧ h.IsList sl (List.toArray svs) ∧ rv = .ref rw ∧ h.IsList rw (List.toArray (dvs ++ [dend])) ∧ svs.length = dvs.length ∧ svs.length ≤ 3 ∧
  (∀ (i : Nat) sv dv, svs[i]? = some sv → dvs[i]? = some dv → StmtAt h sv dv) ∧ TermAt h tv dend gs ∧ gv = .ref gl ∧ h.IsList gl (List.toArray gvs) ∧ IntsAre gvs gs ∧ ∀ g ∈ gs, 0 ≤ g ∧ g < many
theorem BlkX.blk {bad : List Addr} {h : Heap} {many : Int} {bv rv gv : Value} (x : BlkX bad h many bv rv gv) : BlkAt h many bv rv gv := by
  refine hide (fun P9 toP9 => ?_)
  obtain ⟨bk, sl, tv, svs, rw, dvs, dend, gl, gs, gvs, -, r⟩ := x
  (refine toP9 ?_; clear toP9 P9)
  exact ⟨bk, sl, tv, svs, rw, dvs, dend, gl, gs, gvs, r⟩
theorem BlkX.keep {bad : List Addr} {h h' : Heap} (k : ∀ b o, h.get? b = some o → isFields o = false → b ∉ bad → h'.get? b = some o) (kt : KeepTup h h') {many : Int} {bv rv gv : Value} (x : BlkX bad h many bv rv gv) : BlkX bad h' many bv rv gv := by
  refine hide (fun P9 toP9 => ?_)
  obtain ⟨bk, sl, tv, svs, rw, dvs, dend, gl, gs, gvs, ⟨b1, b2, b3, b4⟩, e1, l1, l2, e2, l3, e3, e4, hs, ht, e5, l4, r⟩ := x
  (refine toP9 ?_; clear toP9 P9)
  have kl : ∀ {a its}, a ∉ bad → h.IsList a its → h'.IsList a its := fun nb q => by
    obtain ⟨o, ho, hc, n, hd⟩ := q
    exact ⟨o, k _ _ ho (by unfold isFields; rw [hd]) nb, hc, n, hd⟩
  exact ⟨bk, sl, tv, svs, rw, dvs, dend, gl, gs, gvs, ⟨b1, b2, b3, b4⟩, e1, kl b1 l1, kl b2 l2, e2, kl b3 l3, e3, e4, fun i sv dv a b => (hs i sv dv a b).tup kt, ht.tup kt, e5, kl b4 l4, r⟩
def BlksX (bad : List Addr) (h : Heap) (many : Int) (bvs rvs gvs : List Value) : Prop := bvs.length = rvs.length ∧ gvs.length = rvs.length ∧ ∀ (i : Nat) rv, rvs[i]? = some rv → ∃ bv gv, bvs[i]? = some bv ∧ gvs[i]? = some gv ∧ BlkX bad h many bv rv gv
theorem BlksX.keep {bad : List Addr} {h h' : Heap} (k : ∀ b o, h.get? b = some o → isFields o = false → b ∉ bad → h'.get? b = some o) (kt : KeepTup h h') {many : Int} {bvs rvs gvs : List Value} (x : BlksX bad h many bvs rvs gvs) : BlksX bad h' many bvs rvs gvs :=
  ⟨x.1, x.2.1, fun i rv e => let ⟨bv, gv, a, b, c⟩ := x.2.2 i rv e; ⟨bv, gv, a, b, c.keep k kt⟩⟩
theorem BlksX.blks {bad : List Addr} {h : Heap} {many : Int} {bvs rvs gvs : List Value} (x : BlksX bad h many bvs rvs gvs) (h4 : rvs.length ≤ 4) : BlksAt h many bvs rvs gvs :=
  ⟨x.1, x.2.1, h4, fun i rv e => let ⟨bv, gv, a, b, c⟩ := x.2.2 i rv e; ⟨bv, gv, a, b, c.blk⟩⟩
theorem BlksX.nil {bad : List Addr} {h : Heap} {many : Int} : BlksX bad h many [] [] [] := ⟨rfl, rfl, fun i rv e => by simp at e⟩
theorem BlksX.snoc {bad : List Addr} {h : Heap} {many : Int} {bvs rvs gvs : List Value} {bv rv gv : Value} (x : BlksX bad h many bvs rvs gvs) (y : BlkX bad h many bv rv gv) : BlksX bad h many (bvs ++ [bv]) (rvs ++ [rv]) (gvs ++ [gv]) := by
  refine ⟨by simp [x.1], by simp [x.2.1], fun i v e => ?_⟩
  by_cases hi : i < rvs.length
  · rw [List.getElem?_append_left hi] at e
    refine hide (fun P9 toP9 => ?_)
    obtain ⟨b, g, e1, e2, e3⟩ := x.2.2 i v e
    (refine toP9 ?_; clear toP9 P9)
    have h1 := x.1
    have h2 := x.2.1
    exact ⟨b, g, by rw [List.getElem?_append_left (by omega)]; exact e1, by rw [List.getElem?_append_left (by omega)]; exact e2, e3⟩
  · have hl : i < (rvs ++ [rv]).length := (List.getElem?_eq_some_iff.mp e).1
    have hie : i = rvs.length := by rw [List.length_append, List.length_singleton] at hl; omega
    subst hie
    have hv : v = rv := by simpa using e.symm
    subst hv
    refine ⟨bv, gv, ?_, ?_, y⟩
    · rw [← x.1]; simp
    · rw [← x.2.1]; simp
theorem blks_parts {h : Heap} {many : Int} {bvs rvs gvs : List Value} (x : BlksAt h many bvs rvs gvs) (hm : many = rvs.length) : ∃ (cs : List Nat) (ggs : List (List Int)), cs.length = rvs.length ∧ ggs.length = cs.length ∧ EndsAt h bvs cs ggs ∧ RowsAt h rvs cs ∧ GoalsAt h gvs ggs cs.length ∧ LensAt h bvs cs := by
  classical
  refine hide (fun P9 toP9 => ?_)
  obtain ⟨l1, l2, l4, hx⟩ := x
  have H : ∀ i, ∃ p : Nat × List Int, i < rvs.length → ∃ bk sl tm dv svs rw dvs gl gvl, bvs[i]? = some (.ref bk) ∧ h.IsList bk [.ref sl, .ref tm].toArray ∧ h.IsList sl (List.toArray svs) ∧ svs.length = p.1 ∧ svs.length ≤ 3 ∧ TermAt h (.ref tm) dv p.2 ∧ (∀ g ∈ p.2, 0 ≤ g ∧ g < many) ∧
      rvs[i]? = some (.ref rw) ∧ h.IsList rw (List.toArray dvs) ∧ dvs.length = p.1 + 1 ∧ gvs[i]? = some (.ref gl) ∧ h.IsList gl (List.toArray gvl) ∧ IntsAre gvl p.2 := fun i => by
    by_cases hi : i < rvs.length
    · obtain ⟨bv, gv, e1, e2, bk, sl, tv, svs, rw, dvs, dend, gl, gs, gvl, rfl, q1, q2, q3, q4, q5, q6, -, q7, rfl, q8, q9, q10⟩ := hx i rvs[i] (List.getElem?_eq_getElem hi)
      obtain ⟨tm, rfl⟩ := q7.isRef
      exact ⟨(svs.length, gs), fun _ => ⟨bk, sl, tm, dend, svs, rw, dvs ++ [dend], gl, gvl, e1, q1, q2, rfl, q6, q7, q10, by rw [List.getElem?_eq_getElem hi, q3], q4, by simp [q5], e2, q8, q9⟩⟩
    · exact ⟨(0, []), fun q => absurd q hi⟩
  obtain ⟨f, hf⟩ := Classical.axiomOfChoice H
  (refine toP9 ?_; clear toP9 P9)
  have len : ((List.range rvs.length).map fun i => (f i).1).length = rvs.length := by simp
  have c3 : ∀ c ∈ (List.range rvs.length).map fun i => (f i).1, c ≤ 3 := by
    intro c hc
    obtain ⟨i, hi, rfl⟩ := List.mem_map.mp hc
    obtain ⟨_, _, _, _, _, _, _, _, _, _, _, _, q4, q5, _⟩ := hf i (List.mem_range.mp hi)
    omega
  have gc : ∀ i, i < rvs.length → ((List.range rvs.length).map fun i => (f i).1)[i]? = some (f i).1 := fun i hi => by rw [List.getElem?_map, List.getElem?_range hi]; rfl
  have gg : ∀ i, i < rvs.length → ((List.range rvs.length).map fun i => (f i).2)[i]? = some (f i).2 := fun i hi => by rw [List.getElem?_map, List.getElem?_range hi]; rfl
  refine ⟨(List.range rvs.length).map fun i => (f i).1, (List.range rvs.length).map fun i => (f i).2, by simp, by simp, ?_, ?_, ?_, ?_⟩
  · refine ⟨by rw [len, l1], by rw [len]; exact l4, c3, fun i v e => ?_⟩
    have hi : i < rvs.length := by rw [← l1]; exact (List.getElem?_eq_some_iff.mp e).1
    refine hide (fun P9 toP9 => ?_)
    obtain ⟨bk, sl, tm, dv, svs, rw, dvs, gl, gvl, q1, q2, q3, q4, q5, q6, q7, q8, q9, q10, q11, q12, q13⟩ := hf i hi
    (refine toP9 ?_; clear toP9 P9)
    rw [q1] at e; cases e
    exact ⟨bk, sl, tm, dv, svs, _, rfl, q2, q3, by rw [gc i hi, q4], q6, gg i hi, fun g hg => by rw [len, ← hm]; exact q7 g hg⟩
  · refine ⟨by rw [len], by rw [len]; exact l4, c3, fun i v e => ?_⟩
    have hi : i < rvs.length := (List.getElem?_eq_some_iff.mp e).1
    refine hide (fun P9 toP9 => ?_)
    obtain ⟨bk, sl, tm, dv, svs, rw, dvs, gl, gvl, q1, q2, q3, q4, q5, q6, q7, q8, q9, q10, q11, q12, q13⟩ := hf i hi
    (refine toP9 ?_; clear toP9 P9)
    rw [q8] at e; cases e
    exact ⟨rw, dvs, _, rfl, q9, gc i hi, q10⟩
  · refine ⟨by simp [l2], fun i v e => ?_⟩
    have hi : i < rvs.length := by rw [← l2]; exact (List.getElem?_eq_some_iff.mp e).1
    refine hide (fun P9 toP9 => ?_)
    obtain ⟨bk, sl, tm, dv, svs, rw, dvs, gl, gvl, q1, q2, q3, q4, q5, q6, q7, q8, q9, q10, q11, q12, q13⟩ := hf i hi
    (refine toP9 ?_; clear toP9 P9)
    rw [q11] at e; cases e
    exact ⟨gl, _, gvl, rfl, q12, q13, gg i hi, q6.len, fun g hg => by rw [len, ← hm]; exact q7 g hg⟩
  · refine ⟨by rw [len, l1], by rw [len]; exact l4, c3, fun i v e => ?_⟩
    have hi : i < rvs.length := by rw [← l1]; exact (List.getElem?_eq_some_iff.mp e).1
    refine hide (fun P9 toP9 => ?_)
    obtain ⟨bk, sl, tm, dv, svs, rw, dvs, gl, gvl, q1, q2, q3, q4, q5, q6, q7, q8, q9, q10, q11, q12, q13⟩ := hf i hi
    (refine toP9 ?_; clear toP9 P9)
    rw [q1] at e; cases e
    exact ⟨bk, sl, .ref tm, svs, rfl, q2, q3, by rw [gc i hi, q4]⟩
section
variable {prog : Program} {w : World} {A : Around} {E : Value → Shared → Prop} {s : Shared} {d : Addr} {es : List ((Int × Int) × List (Int × Int))}
/-- a new entry of a display -/
theorem dat_disp {a : Addr} {b i : Int} {tb ti : Tok} {v : Value} {ps : List (Int × Int)} {Q : Unit → Shared → Prop} (hu : A.units < cLine) (hD : DAt prog w s.heap d es) (ha : IsTup s.heap a #[.int b tb, .int i ti]) (hv : PairsAt s.heap v ps)
    (hn : (b, i) ∉ es.map Prod.fst) (hl : es.length < 1000) (h : ∀ h' tk', DAt prog w h' d (es ++ [((b, i), ps)]) → Heap.SameBut d s.heap h' → Q () { s with heap := h', toks := tk' }) :
    wpAny (model prog w) A (dictSet d (.ref a) v) Q E s := by
  refine hide (fun P9 toP9 => ?_)
  obtain ⟨hs, xs, hm, hx⟩ := hD
  (refine toP9 ?_; clear toP9 P9)
  have hkey : (tupleKind (intKind prog w)).is s.heap [b, i] a := by
    obtain ⟨o, ho, hc, n, hd⟩ := ha
    exact ⟨o, _, n, ho, hc, hd, .cons (by simp [intKind, Value.isInt]) (.cons (by simp [intKind, Value.isInt]) .nil)⟩
  refine wpAny_dictSet_heap (knd := tupleKind (intKind prog w)) hu hkey hm (fun h' hm' hs' => ?_) (by rw [hx.len]; unfold sizeLine; omega)
  refine hide (fun P9 toP9 => ?_)
  obtain ⟨o, ee, ep, ho, _, hd, _⟩ := id hm
  (refine toP9 ?_; clear toP9 P9)
  refine h h' _ ⟨hs, _, hm', ?_⟩ hs'
  rw [storedH_new (atKey_fresh hx hn)]
  exact (hx.mono fun v ps => pairs_same ho hd hs').append (.cons (pairs_same ho hd hs' hv) .nil)
end
section
variable {prog : Program} {w : World} {A : Around} {E : Value → Shared → Prop} {s : Shared} {d : Addr}
theorem storeAll_nil {Q : PUnit → Shared → Prop} (h : Q ⟨⟩ s) : wpAny (model prog w) A (storeAll d []) Q E s := wpAny_pure h
theorem storeAll_cons {k v : Value} {rest : List (Value × Value)} {Q : PUnit → Shared → Prop} (h : wpAny (model prog w) A (dictSet d k v) (fun _ s' => wpAny (model prog w) A (storeAll d rest) Q E s') E s) :
    wpAny (model prog w) A (storeAll d ((k, v) :: rest)) Q E s := by
  unfold storeAll
  rw [List.forIn_cons]
  exact wpAny_bind (wpAny_bind (wpAny_mono h (fun _ s' h' => wpAny_pure h') fun _ _ e => e))
end
theorem ns_some {h : Heap} {a : Addr} {m : Str → Option Value} (x : h.Ns a m) : ∃ o, h.get? a = some o := let ⟨o, _, _, e, _⟩ := x; ⟨o, e⟩
section
variable {prog : Program} {w : World} {h h' : Heap} {d r : Addr} {es es' : List ((Int × Int) × List (Int × Int))}
theorem tup_set {a : Addr} {items : Array Value} (hD : DAt prog w h d es) (hs : Heap.SameBut d h h') (x : IsTup h a items) : IsTup h' a items := by
  refine hide (fun P9 toP9 => ?_)
  obtain ⟨_, xs, ⟨o', ee, ep, ho, _, hd', _⟩, _⟩ := hD
  obtain ⟨oa, hoa, hc, n, hda⟩ := x
  (refine toP9 ?_; clear toP9 P9)
  exact ⟨oa, hs.extBut _ _ (fun q => by subst q; rw [ho] at hoa; cases hoa; rw [hd'] at hda; cases hda) hoa, hc, n, hda⟩
theorem dat_other (hne : r ≠ d) (hD : DAt prog w h d es) (hs : Heap.SameBut d h h') (x : DAt prog w h r es') : DAt prog w h' r es' := by
  refine hide (fun P9 toP9 => ?_)
  obtain ⟨hs0, ys, ⟨o, ee, ep, ho, hc, hd, he, hi, hn⟩, hv⟩ := x
  (refine toP9 ?_; clear toP9 P9)
  refine ⟨hs0, ys, ⟨o, ee, ep, hs.extBut _ _ hne ho, hc, hd, he, fun y hy => ?_, hn⟩, hv.mono fun v ps => pairs_set hD hs⟩
  refine hide (fun P9 toP9 => ?_)
  obtain ⟨oa, items, n, hoa, hca, hda, hia⟩ := hi y hy
  obtain ⟨_, xs, ⟨o', ee', ep', ho', _, hd', _⟩, _⟩ := hD
  (refine toP9 ?_; clear toP9 P9)
  exact ⟨oa, items, n, hs.extBut _ _ (fun q => by subst q; rw [ho'] at hoa; cases hoa; rw [hd'] at hda; cases hda) hoa, hca, hda, hia⟩
theorem DAt.lt (x : DAt prog w h d es) : d < h.objs.size := by
  refine hide (fun P9 toP9 => ?_)
  obtain ⟨_, xs, ⟨o', ee, ep, ho, _⟩, _⟩ := x
  (refine toP9 ?_; clear toP9 P9)
  exact Heap.lt_size ho
end
/-- statements with what is due of them, as pairs -/
inductive StL (h : Heap) : List Value → List (Value × Value) → Prop
  | nil : StL h [] []
  | cons {r : Addr} {a b : Value} {n : Nat} {vs : List Value} {ps : List (Value × Value)} (e : h.get? r = some (tupObj [a, b] n)) (s : StmtAt h a b) : StL h vs ps → StL h (.ref r :: vs) ((a, b) :: ps)
theorem StL.tup {h h' : Heap} (k : KeepTup h h') {vs : List Value} {ps : List (Value × Value)} (x : StL h vs ps) : StL h' vs ps := by
  induction x with
  | nil => exact .nil
  | cons e s _ ih => exact .cons (k _ _ _ e) (s.tup k) ih
theorem StL.append {h : Heap} {vs ws : List Value} {ps qs : List (Value × Value)} (x : StL h vs ps) (y : StL h ws qs) : StL h (vs ++ ws) (ps ++ qs) := by
  induction x with
  | nil => exact y
  | cons e s _ ih => exact .cons e s ih
theorem StL.len {h : Heap} {vs : List Value} {ps : List (Value × Value)} (x : StL h vs ps) : vs.length = ps.length := by
  induction x with
  | nil => rfl
  | cons e s _ ih => simp [ih]
theorem StL.items {h : Heap} {vs : List Value} {ps : List (Value × Value)} (x : StL h vs ps) : PairItems h vs ps := by
  induction x with
  | nil => intro i v e; simp at e
  | cons e s _ ih =>
    intro i v q
    cases i with
    | zero => cases q; exact ⟨_, _, rfl, rfl, ⟨_, e, rfl, _, rfl⟩⟩
    | succ i => exact ih i v q
theorem StL.stmt {h : Heap} {vs : List Value} {ps : List (Value × Value)} (x : StL h vs ps) : ∀ (i : Nat) a b, (ps.map Prod.fst)[i]? = some a → (ps.map Prod.snd)[i]? = some b → StmtAt h a b := by
  induction x with
  | nil => intro i a b e; simp at e
  | cons e s _ ih =>
    intro i a b q1 q2
    cases i with
    | zero => cases q1; cases q2; exact s
    | succ i => exact ih i a b q1 q2
theorem TermAt.refs {h : Heap} {a b : Value} {gs : List Int} (x : TermAt h a b gs) : ∃ tm du, a = .ref tm ∧ b = .ref du := by cases x <;> exact ⟨_, _, rfl, rfl⟩
theorem back_but {g h h' : Heap} {L src : Addr} {m : Str → Option Value} (F : Fr g L h m) (k : KeepBut [src] h h') (gs : g.get? src = none) (nL : src ≠ L) : Fr g L h' m :=
  ⟨F.ns.at' fun o e => k L o e (by simpa using Ne.symm nL), fun b o e => k b o (F.keep b o e) (by simp only [List.mem_singleton]; exact fun q => by rw [q, gs] at e; cases e), F.above⟩
/-- the law's figures, named -/
theorem name3 {g h : Heap} {L B R G tu src c : Addr} {m₀ : Str → Option Value} {r : Int} {tk : Tok} {o oc ot : Obj} {nB nR nG : Nat}
    (F : Fr g L h (fun y => if y = Str.ofString "goals" then some (.ref G) else if y = Str.ofString "rows" then some (.ref R) else if y = Str.ofString "blocks" then some (.ref B) else if y = Str.ofString "many" then some (.int (4 - r) tk) else m₀ y))
    (N : News g L h [(tu, ot), (G, listOf #[] nG), (R, listOf #[] nR), (B, listOf #[] nB), (src, o), (c, oc)]) (h0 : 0 ≤ r) (h1 : r < 4) (ho : SrcObj o) (hc : oc.data = .cell (some (.ref src))) (n1 : B ≠ R) (n2 : B ≠ G) (n3 : R ≠ G) (n4 : B ≠ src) (n5 : R ≠ src) (n6 : G ≠ src) (n7 : B ≠ c) (n8 : R ≠ c) (n9 : G ≠ c) :
    ∃ (m₀ : Str → Option Value) (B R G : Addr) (oc : Obj) (tk : Tok) (nB nR nG : Nat) (o : Obj) (n : Nat), (B ≠ R ∧ B ≠ G ∧ R ≠ G ∧ B ≠ src ∧ R ≠ src ∧ G ≠ src ∧ B ≠ c ∧ R ≠ c ∧ G ≠ c) ∧ 1 ≤ n ∧ n ≤ 4 ∧ Fr g L h (fun y => if y = Str.ofString "goals" then some (.ref G) else if y = Str.ofString "rows" then some (.ref R) else if y = Str.ofString "blocks" then some (.ref B) else if y = Str.ofString "many" then some (.int (n : Int) tk) else m₀ y) ∧
      News g L h [(G, listOf #[] nG), (R, listOf #[] nR), (B, listOf #[] nB), (src, o), (c, oc)] ∧ SrcObj o ∧ oc.data = .cell (some (.ref src)) := by
  refine ⟨m₀, B, R, G, oc, tk, nB, nR, nG, o, (4 - r).toNat, ⟨n1, n2, n3, n4, n5, n6, n7, n8, n9⟩, by omega, by omega, ?_, fun p hp => N p (.tail _ hp), ho, hc⟩
  rw [show (((4 - r).toNat : Nat) : Int) = 4 - r by omega]
  exact F
def LoopJ (L src B R G c : Addr) (oc : Obj) (n b : Nat) (h : Heap) : Prop := h.get? c = some oc ∧ SrcOk h src ∧ ∃ bvs rvs gvs nb nr ng, h.get? B = some (listOf (List.toArray bvs) nb) ∧ h.get? R = some (listOf (List.toArray rvs) nr) ∧ h.get? G = some (listOf (List.toArray gvs) ng) ∧ rvs.length = b ∧ BlksX [L, src, B, R, G] h (n : Int) bvs rvs gvs
theorem srcOk_keep {h h' : Heap} {src : Addr} (x : SrcOk h src) (k : ∀ o, h.get? src = some o → isFields o = false → h'.get? src = some o) : SrcOk h' src := by
  refine hide (fun P9 toP9 => ?_)
  obtain ⟨o, ho, hs⟩ := x
  (refine toP9 ?_; clear toP9 P9)
  refine ⟨o, k o ho ?_, hs⟩
  refine hide (fun P9 toP9 => ?_)
  obtain ⟨p, q, t1, t2, n, rfl⟩ := hs
  (refine toP9 ?_; clear toP9 P9)
  rfl
theorem loopJ_off {g H h h' : Heap} {L src B R G c : Addr} {oc : Obj} {n b : Nat} {m : Str → Option Value} {v : Option Value} (F : Fr g L h m) (hc : oc.data = .cell v) (n1 : c ≠ L) (n2 : src ≠ L) (n3 : B ≠ L) (n4 : R ≠ L) (n5 : G ≠ L) (x : LoopJ L src B R G c oc n b h) (ko : KeepOff H L h h') : LoopJ L src B R G c oc n b h' := by
  refine hide (fun P9 toP9 => ?_)
  obtain ⟨x1, x2, bvs, rvs, gvs, nb, nr, ng, e1, e2, e3, e4, e5⟩ := x
  (refine toP9 ?_; clear toP9 P9)
  refine ⟨ko _ _ x1 n1 (.inl (by unfold isFields; rw [hc])), srcOk_keep x2 fun o e f => ko _ _ e n2 (.inl f), bvs, rvs, gvs, nb, nr, ng, ko _ _ e1 n3 (.inl rfl), ko _ _ e2 n4 (.inl rfl), ko _ _ e3 n5 (.inl rfl), e4, e5.keep (fun b o e f nb => ko b o e (fun q => nb (q ▸ .head _)) (.inl f)) fun b vs k e => ko b _ e (fun q => ns_no_tup F.ns vs k (q ▸ e)) (.inl rfl)⟩
theorem keepC_tups {g Hs h h' : Heap} {L C D : Addr} {m mC : Str → Option Value} {zs : List Value} (F : Fr g L h m) (hC : h.Ns C mC) (hD : h.get? D = some (LCg.lst zs)) (kc : KeepC Hs L C D h h') : KeepTup h h' :=
  fun b vs n e => kc b _ e (fun q => ns_no_tup F.ns vs n (q ▸ e)) (fun q => ns_no_tup hC vs n (q ▸ e)) (fun q => lst_no_tup (ys := zs) hD vs n (q ▸ e)) (.inl rfl)
theorem keepC_oldS {Hs h h' : Heap} {L C D src : Addr} (hC : Hs.get? C = none) (hD : Hs.get? D = none) (k : ∀ b o, Hs.get? b = some o → b ≠ L → b ≠ src → h.get? b = some o) (kc : KeepC Hs L C D h h') : ∀ b o, Hs.get? b = some o → b ≠ L → b ≠ src → h'.get? b = some o :=
  fun b o e b1 b2 => kc b o (k b o e b1 b2) b1 (fun q => by rw [q, hC] at e; cases e) (fun q => by rw [q, hD] at e; cases e) (.inr e)
theorem keepC_src {Hs h h' : Heap} {L C D src : Addr} {o₁ : Obj} (hs : Hs.get? src = some o₁) (hC : Hs.get? C = none) (hD : Hs.get? D = none) (nL : src ≠ L) (kc : KeepC Hs L C D h h') (x : SrcOk h src) : SrcOk h' src :=
  srcOk_keep x fun o e f => kc src o e nL (fun q => by rw [q, hC] at hs; cases hs) (fun q => by rw [q, hD] at hs; cases hs) (.inl f)
theorem toNat3 {r : Int} (h0 : 0 ≤ r) (h1 : r < 4) : ∃ c : Nat, c ≤ 3 ∧ 3 - r = (c : Int) := ⟨(3 - r).toNat, by omega, by omega⟩
theorem keepTup_ms {g h h' : Heap} {L : Addr} {m : Str → Option Value} {bad : List Addr} (F : Fr g L h m) (k : ∀ b o, h.get? b = some o → b ≠ L → b ∉ bad → h'.get? b = some o) (hb : ∀ b ∈ bad, ∀ vs n, h.get? b ≠ some (tupObj vs n)) : KeepTup h h' :=
  fun b vs n e => k b _ e (fun q => ns_no_tup F.ns vs n (q ▸ e)) fun q => hb b q vs n e
theorem bad_no_tup {h : Heap} {src B R G : Addr} {o : Obj} {bv rv gv : List Value} {nb nr ng : Nat} (hs : h.get? src = some o) (ho : SrcObj o) (h1 : h.get? B = some (listOf (List.toArray bv) nb)) (h2 : h.get? R = some (listOf (List.toArray rv) nr)) (h3 : h.get? G = some (listOf (List.toArray gv) ng)) :
    ∀ b ∈ [src, B, R, G], ∀ vs n, h.get? b ≠ some (tupObj vs n) := by
  intro b hb vs n
  simp only [List.mem_cons, List.not_mem_nil, or_false] at hb
  rcases hb with rfl | rfl | rfl | rfl
  · exact src_no_tup ⟨o, hs, ho⟩ vs n
  · exact lst_no_tup h1 vs n
  · exact lst_no_tup h2 vs n
  · exact lst_no_tup h3 vs n
theorem keepIt_ms {h h' : Heap} {L src B R G : Addr} {o : Obj} {bv rv gv : List Value} {nb nr ng : Nat} (nf : ∀ o, h.get? L = some o → isFields o = false) (k : ∀ b o, h.get? b = some o → b ≠ L → b ∉ [src, B, R, G] → h'.get? b = some o) (hs : h.get? src = some o) (ho : SrcObj o) (h1 : h.get? B = some (listOf (List.toArray bv) nb)) (h2 : h.get? R = some (listOf (List.toArray rv) nr)) (h3 : h.get? G = some (listOf (List.toArray gv) ng)) : KeepIt h h' := by
  intro b ob e f
  refine k b ob e (fun q => by rw [nf ob (q ▸ e)] at f; cases f) (fun hb => ?_)
  simp only [List.mem_cons, List.not_mem_nil, or_false] at hb
  rcases hb with rfl | rfl | rfl | rfl
  · rw [hs] at e; cases e
    refine hide (fun P9 toP9 => ?_)
    obtain ⟨p, q, t1, t2, n, rfl⟩ := ho
    (refine toP9 ?_; clear toP9 P9)
    cases f
  · rw [h1] at e; cases e; cases f
  · rw [h2] at e; cases e; cases f
  · rw [h3] at e; cases e; cases f
theorem ne_of_none {h : Heap} {a b : Addr} {o : Obj} (e : h.get? a = some o) (z : h.get? b = none) : b ≠ a := fun q => by rw [q, e] at z; cases z
section
variable {prog : Program} {w : World} {A : Around} {s : Shared} {env : Env} {g Hs : Heap} {L S : Addr} {m mL : Str → Option Value} {scope : Scope} {cl : List (Str × Addr)} {ys : List Value} {prs : List (Value × Value)} {x1 x2 y : Str} {p1 p2 p3 tp : Pos} {tk0} {sel : Value × Value → Value}
theorem colE_comp (hh : A.handled = none) (F : Fr g L s.heap m) (hk : ∀ b o, Hs.get? b = some o → b ≠ L → s.heap.get? b = some o) (nsH : Hs.Ns L mL)
    (hkind : scope.kind = .function) (hx1 : scope.names.lookup x1 = some .local) (hx2 : scope.names.lookup x2 = some .local) (hxx : x1 ≠ x2) (hd : (y == ("__debug__" : Str)) = false) (hsel : (y = x1 ∧ sel = Prod.fst) ∨ (y = x2 ∧ sel = Prod.snd)) (hn : ys.length ≤ sizeLine)
    (hS : Hs.get? S = some (LCg.lst ys)) (nSL : S ≠ L) (hst : StL Hs ys prs) :
    CompE prog w A g L env scope cl (.Tuple [.Name x1 p1, .Name x2 p2] tk0 tp) (.Name y p3) [] m Hs ys.length (fun i zs hh => zs = (prs.map sel).take i ∧ ∀ b o, Hs.get? b = some o → b ≠ L → hh.get? b = some o) (.ref s.heap.objs.size) { s with heap := s.heap.push { cls := .type "list_iterator", data := .fields #[.ref S, .int 0 0] } } := by
  have kt : ∀ {h : Heap}, (∀ b o, Hs.get? b = some o → b ≠ L → h.get? b = some o) → KeepTup Hs h := fun k b vs n e => k b _ e (fun q => ns_no_tup nsH vs n (q ▸ e))
  have hit : ∀ {h : Heap}, (∀ b o, Hs.get? b = some o → b ≠ L → h.get? b = some o) → h.IsList S ys.toArray ∧ PairItems h ys prs := fun k => ⟨⟨_, k S _ hS nSL, rfl, _, rfl⟩, (hst.tup (kt k)).items⟩
  refine compE_listP hh F (fun b o e hb q => by rw [hk b o e hb] at q; cases q) hkind hx1 hx2 hxx hn (hit hk).1 (hit hk).2 (fun h' kh => ⟨rfl, fun b o e hb => kh _ _ (hk b o e hb)⟩) (fun i zs h hJ => hit hJ.2) ?_
  intro C D i h tk zs mC R hi hy ⟨p, hp, hm1, hm2⟩ F' hC hD n1 n2 n3 n4 n5 hC₀ hD₀ hJ
  have hz : zs ++ [sel p] = (prs.map sel).take (i + 1) := by
    rw [List.take_add_one, hJ.1, List.getElem?_map, hp]; rfl
  rcases hsel with ⟨rfl, rfl⟩ | ⟨rfl, rfl⟩
  · exact ldVarK hC hm1 ⟨h, tk, mC, rfl, F', hC, hD, fun _ _ e _ => e, hz, hJ.2⟩ (by simp [compEnvC, relabel, hkind]) (lookup_relabel_local hx1) hd
  · exact ldVarK hC hm2 ⟨h, tk, mC, rfl, F', hC, hD, fun _ _ e _ => e, hz, hJ.2⟩ (by simp [compEnvC, relabel, hkind]) (lookup_relabel_local hx2) hd
end
theorem notBad {a L src B R G : Addr} (h1 : a ≠ L) (h2 : a ≠ src) (h3 : a ≠ B) (h4 : a ≠ R) (h5 : a ≠ G) : a ∉ [L, src, B, R, G] := by simp [h1, h2, h3, h4, h5]
theorem keepTup_all {g h h' : Heap} {L : Addr} {m : Str → Option Value} (F : Fr g L h m) (k : ∀ b o, h.get? b = some o → b ≠ L → h'.get? b = some o) : KeepTup h h' := fun b vs n e => k b _ e (fun q => ns_no_tup F.ns vs n (q ▸ e))
theorem take_all {α : Type} {l : List α} {n : Nat} (h : n = l.length) : l.take n = l := by subst h; exact List.take_length
theorem bkName {g h : Heap} {L B R G bk src : Addr} {o ob : Obj} {bvs : List Value} {nb : Nat} {rest : List (Addr × Obj)} (N : News g L h ((bk, ob) :: (src, o) :: (B, listOf ((List.toArray bvs).push (.ref bk)) (nb + 1)) :: rest)) (h1 : bk ≠ src) (h2 : bk ≠ B) (h3 : bk ≠ R) (h4 : bk ≠ G) :
    ∃ bk', News g L h ((bk', ob) :: (src, o) :: (B, listOf (List.toArray (bvs ++ [.ref bk'])) (nb + 1)) :: rest) ∧ bk' ∉ [L, src, B, R, G] :=
  ⟨bk, by rw [← List.push_toArray]; exact N, notBad (N _ (.head _)).2.1 h1 h2 h3 h4⟩
theorem loop_end {g h h12 h15 : Heap} {L src B R G c bk E1 gl rw dl tm du : Addr} {oc os8 odl : Obj} {n b : Nat} {bvs rvs gvs gvl ys : List Value} {gs : List Int} {prs : List (Value × Value)} {nb nr ng k1 k2 k3 : Nat} {rest : List (Addr × Obj)}
    (N : News g L h15 ((rw, listOf (List.toArray (prs.map Prod.snd ++ [.ref du])) k3) :: (dl, odl) :: (src, os8) :: (B, listOf (List.toArray (bvs ++ [.ref bk])) nb) :: (R, listOf ((List.toArray rvs).push (.ref rw)) nr) :: (G, listOf ((List.toArray gvs).push (.ref gl)) ng) :: (c, oc) :: rest)) (ho : SrcObj os8)
    (y4 : rvs.length = b) (y5 : BlksX [L, src, B, R, G] h (n : Int) bvs rvs gvs)
    (q : ∀ b o, h.get? b = some o → b ≠ L → b ∉ [src, B, R, G] → h15.get? b = some o) (kt : KeepTup h h15)
    (q2 : ∀ b o, h12.get? b = some o → b ≠ L → b ∉ [src, B, R, G] → h15.get? b = some o) (kt2 : KeepTup h12 h15)
    (nbk : bk ∉ [L, src, B, R, G]) (nE1 : E1 ∉ [L, src, B, R, G]) (nrw : rw ∉ [L, src, B, R, G]) (ngl : gl ∉ [L, src, B, R, G])
    (bk12 : h12.get? bk = some (listOf (List.toArray [.ref E1, .ref tm]) k1)) (E12 : h12.get? E1 = some (LCg.lst (prs.map Prod.fst))) (l12 : h12.get? gl = some (listOf (List.toArray gvl) k2))
    (hst : StL h12 ys prs) (ht : TermAt h12 (.ref tm) (.ref du) gs) (hi : IntsAre gvl gs) (hg : ∀ g ∈ gs, 0 ≤ g ∧ g < (n : Int)) (prl : prs.length ≤ 3) : LoopJ L src B R G c oc n (b + 1) h15 := by
  have up : ∀ {a o}, h12.get? a = some o → a ∉ [L, src, B, R, G] → h15.get? a = some o := fun e nb => q2 _ _ e (fun z => nb (z ▸ .head _)) (fun z => nb (.tail _ z))
  refine ⟨N.get (.tail _ (.tail _ (.tail _ (.tail _ (.tail _ (.tail _ (.head _))))))), ⟨os8, N.get (.tail _ (.tail _ (.head _))), ho⟩, bvs ++ [.ref bk], rvs ++ [.ref rw], gvs ++ [.ref gl], nb, nr, ng, N.get (.tail _ (.tail _ (.tail _ (.head _)))), ?eR, ?eG, by simp [y4], ?bl⟩
  case eR => rw [← List.push_toArray]; exact N.get (.tail _ (.tail _ (.tail _ (.tail _ (.head _)))))
  case eG => rw [← List.push_toArray]; exact N.get (.tail _ (.tail _ (.tail _ (.tail _ (.tail _ (.head _))))))
  case bl =>
    refine BlksX.snoc (y5.keep (fun b o e f nb => q b o e (fun z => nb (z ▸ .head _)) (fun z => nb (.tail _ z))) kt) ?_
    exact ⟨bk, E1, .ref tm, prs.map Prod.fst, rw, prs.map Prod.snd, .ref du, gl, gs, gvl, ⟨nbk, nE1, nrw, ngl⟩, rfl, isl (up bk12 nbk), isl (up E12 nE1), rfl, isl (N.get (.head _)), by simp, by rw [List.length_map]; exact prl,
      (hst.tup kt2).stmt, ht.tup kt2, rfl, isl (up l12 ngl), hi, hg⟩
section
open Builtin
theorem noFill_tup_mul : fillsNumberSlot (.type "tuple") "mul" = pure false :=
  PySem.fillsNumberSlot_seq (id := "tuple.__mul__") (r := some (.builtin "tuple.__rmul__")) PySem.F.slot_tuple_mul.lookup (by decide +kernel) PySem.F.slot_tuple_rmul.lookup (by decide +kernel)
theorem repeat_tup : seqRepeat? (.type "tuple") = pure (some (.builtin "tuple.__mul__")) := by
  unfold seqRepeat?
  rw [PySem.seqSlot_of (T := "tuple") (name := "__mul__") (id := "tuple.__mul__") PySem.F.slot_tuple_mul.lookup (by decide +kernel), PySem.seqSlot_of (T := "tuple") (name := "__rmul__") (id := "tuple.__rmul__") PySem.F.slot_tuple_rmul.lookup (by decide +kernel)]
  rfl
theorem rmul_tup (a : Int) (t : Tok) (l : Addr) (items : Array Value) (n : Nat) (d : Option Addr) (sl : Array (Option Value)) :
    Meets (Builtin.«int.__rmul__» ⟨[.int a t, .ref l], []⟩) (fun _ R s => s.heap.get? l = some { cls := .type "tuple", dict := d, data := .seq items n, slots := sl } ∧ R (.ok (.ret Value.notImplemented)) s) :=
  .of_wp fun prog w A R s h => by obtain ⟨hp, g, d, tk, os⟩ := s; obtain ⟨hl, h⟩ := h; wp_walk; exact ⟨_, rfl, h⟩
theorem mul_tup0 (l : Addr) (v : Value) (n : Nat) (d : Option Addr) (sl : Array (Option Value)) (u : Tok) :
    Meets (Builtin.«tuple.__mul__» ⟨[.ref l, .int 0 u], []⟩) (fun _ R s => s.heap.get? l = some { cls := .type "tuple", dict := d, data := .seq #[v] n, slots := sl } ∧ R (.ok (.ret (Value.ref s.heap.objs.size))) { s with heap := s.heap.push { cls := Value.type "tuple", data := Data.seq #[] } }) :=
  .of_wp fun prog w A R s h => by
    obtain ⟨hp, g, d, tk, os⟩ := s; obtain ⟨hl, h⟩ := h
    wp_walk
    exact ⟨_, rfl, h⟩
theorem mul_tup1 (l : Addr) (v : Value) (n : Nat) (d : Option Addr) (sl : Array (Option Value)) (u : Tok) :
    Meets (Builtin.«tuple.__mul__» ⟨[.ref l, .int 1 u], []⟩) (fun _ R s => s.heap.get? l = some { cls := .type "tuple", dict := d, data := .seq #[v] n, slots := sl } ∧ R (.ok (.ret (Value.ref l))) s) :=
  .of_wp fun prog w A R s h => by
    obtain ⟨hp, g, d, tk, os⟩ := s; obtain ⟨hl, h⟩ := h
    wp_walk
    exact ⟨_, rfl, h⟩
theorem mul_tup2 (l : Addr) (v : Value) (n : Nat) (d : Option Addr) (sl : Array (Option Value)) (u : Tok) :
    Meets (Builtin.«tuple.__mul__» ⟨[.ref l, .int 2 u], []⟩) (fun _ R s => s.heap.get? l = some { cls := .type "tuple", dict := d, data := .seq #[v] n, slots := sl } ∧ R (.ok (.ret (Value.ref s.heap.objs.size))) { s with heap := s.heap.push { cls := Value.type "tuple", data := Data.seq #[v, v] } }) :=
  .of_wp fun prog w A R s h => by
    obtain ⟨hp, g, d, tk, os⟩ := s; obtain ⟨hl, h⟩ := h
    wp_walk
    exact ⟨_, rfl, h⟩
variable {prog : Program} {w : World} {A : Around} {E : Value → Shared → Prop} {s : Shared} {g : Heap} {L t : Addr} {m : Str → Option Value} {news : List (Addr × Obj)}
/-- a tuple of one, so many times -/
theorem tup_times {v : Value} {c : Nat} {u : Tok} {Q : Value → Shared → Prop} (F : Fr g L s.heap m) (ht : IsTup s.heap t #[v]) (hc : c ≤ 2)
    (h : ∀ r h', (∀ b o, s.heap.get? b = some o → h'.get? b = some o) → Fr g L h' m → IsTup h' r (List.toArray (List.replicate c v)) → Q (.ref r) { s with heap := h' }) :
    wpAny (model prog w) A (binaryOp .Mult (.ref t) (.int (c : Int) u)) Q E s := by
  obtain ⟨⟨cls, d, data, sl⟩, ho, hcl, k, hd⟩ := id ht
  simp only at hcl hd
  subst hcl hd
  have z : ∀ o : Obj, (∀ b ob, s.heap.get? b = some ob → (s.heap.push o).get? b = some ob) := fun o b ob e => Heap.get?_push_of_some _ e
  match c, hc with
  | 0, _ =>
    refine wpAny_binaryOp_repeat_ref (T := "tuple") (U := "int") (by decide) ⟨_, ho, rfl⟩ (fun s' => typeIs_int s' _ u) noFill_tup_mul PySem.F.fills_int_mul PySem.F.slot_int_rmul repeat_tup PySem.F.slot_int_index.lookup
      (call_meets PySem.F.slot_int_rmul (typeIs_int s _ u) PySem.F.entry_int_rmul (PySem.F.args_int_rmul_2 _ _) (rmul_tup _ u t #[v] k d sl)
        ⟨ho, rfl, ⟨_, ho, rfl⟩, call_meets PySem.F.slot_tuple_mul ⟨_, ho, rfl⟩ PySem.F.entry_tuple_mul (PySem.F.args_tuple_mul_2 _ _) (mul_tup0 t v k d sl u) ⟨ho, ?_⟩⟩)
    exact h _ _ (z _) (F.push _) ⟨_, Heap.get?_push_size _ rfl, rfl, _, rfl⟩
  | 1, _ =>
    refine wpAny_binaryOp_repeat_ref (T := "tuple") (U := "int") (by decide) ⟨_, ho, rfl⟩ (fun s' => typeIs_int s' _ u) noFill_tup_mul PySem.F.fills_int_mul PySem.F.slot_int_rmul repeat_tup PySem.F.slot_int_index.lookup
      (call_meets PySem.F.slot_int_rmul (typeIs_int s _ u) PySem.F.entry_int_rmul (PySem.F.args_int_rmul_2 _ _) (rmul_tup _ u t #[v] k d sl)
        ⟨ho, rfl, ⟨_, ho, rfl⟩, call_meets PySem.F.slot_tuple_mul ⟨_, ho, rfl⟩ PySem.F.entry_tuple_mul (PySem.F.args_tuple_mul_2 _ _) (mul_tup1 t v k d sl u) ⟨ho, ?_⟩⟩)
    exact h _ _ (fun _ _ e => e) F ht
  | 2, _ =>
    refine wpAny_binaryOp_repeat_ref (T := "tuple") (U := "int") (by decide) ⟨_, ho, rfl⟩ (fun s' => typeIs_int s' _ u) noFill_tup_mul PySem.F.fills_int_mul PySem.F.slot_int_rmul repeat_tup PySem.F.slot_int_index.lookup
      (call_meets PySem.F.slot_int_rmul (typeIs_int s _ u) PySem.F.entry_int_rmul (PySem.F.args_int_rmul_2 _ _) (rmul_tup _ u t #[v] k d sl)
        ⟨ho, rfl, ⟨_, ho, rfl⟩, call_meets PySem.F.slot_tuple_mul ⟨_, ho, rfl⟩ PySem.F.entry_tuple_mul (PySem.F.args_tuple_mul_2 _ _) (mul_tup2 t v k d sl u) ⟨ho, ?_⟩⟩)
    exact h _ _ (z _) (F.push _) ⟨_, Heap.get?_push_size _ rfl, rfl, _, rfl⟩
end
theorem isTup_but {g h h' : Heap} {L src a : Addr} {m : Str → Option Value} {items : Array Value} (F : Fr g L h m) (hs : SrcOk h src) (k : ∀ b o, h.get? b = some o → b ≠ L → b ≠ src → h'.get? b = some o) (x : IsTup h a items) : IsTup h' a items := by
  obtain ⟨o, ho, hc, n, hd⟩ := x
  refine ⟨o, k _ _ ho (seq_ne_ns F ho hd) (fun q => ?_), hc, n, hd⟩
  subst q
  obtain ⟨o', ho', p, r, t1, t2, n', rfl⟩ := hs
  rw [ho] at ho'; cases ho'
  have hc' : Value.type "list" = Value.type "tuple" := hc
  simp at hc'
theorem pairsL_but {g h h' : Heap} {L src : Addr} {m : Str → Option Value} {vs : List Value} {ps : List (Int × Int)} (F : Fr g L h m) (hs : SrcOk h src) (k : ∀ b o, h.get? b = some o → b ≠ L → b ≠ src → h'.get? b = some o) (x : PairsL h vs ps) : PairsL h' vs ps := by
  induction x with
  | nil => exact .nil
  | cons e _ ih => exact .cons (isTup_but F hs k e) ih
theorem full_but {g h h' : Heap} {L src : Addr} {m : Str → Option Value} {fvs : List Value} {fs} (F : Fr g L h m) (hs : SrcOk h src) (k : ∀ b o, h.get? b = some o → b ≠ L → b ≠ src → h'.get? b = some o) (x : FullAt h fvs fs) : FullAt h' fvs fs :=
  ⟨x.1, x.2.1, fun i v e => let ⟨ps, ⟨t, vs, a, b, c⟩, d⟩ := x.2.2 i v e; ⟨ps, ⟨t, vs, a, isTup_but F hs k b, pairsL_but F hs k c⟩, d⟩⟩
theorem facts_but {g h h' : Heap} {L src : Addr} {m : Str → Option Value} {fvs : List Value} {fs} (F : Fr g L h m) (hs : SrcOk h src) (k : ∀ b o, h.get? b = some o → b ≠ L → b ≠ src → h'.get? b = some o) (x : FactsAt h fvs fs) : FactsAt h' fvs fs :=
  ⟨x.1, x.2.1, fun i v e => (x.2.2 i v e).imp id fun ⟨ps, ⟨t, vs, a, b, c⟩, d⟩ => ⟨ps, ⟨t, vs, a, isTup_but F hs k b, pairsL_but F hs k c⟩, d⟩⟩
theorem full_keepC {g Hs h h' : Heap} {L C D : Addr} {m mC : Str → Option Value} {zs fvs : List Value} {fs} (F : Fr g L h m) (hC : h.Ns C mC) (hD : h.get? D = some (LCg.lst zs)) (kc : KeepC Hs L C D h h') (x : FullAt h fvs fs) : FullAt h' fvs fs :=
  ⟨x.1, x.2.1, fun i v e => let ⟨ps, ⟨t, vs, a, b, c⟩, d⟩ := x.2.2 i v e; ⟨ps, ⟨t, vs, a, keepC_tup F hC hD kc b, keepC_pairsL F hC hD kc c⟩, d⟩⟩
theorem facts_keepC {g Hs h h' : Heap} {L C D : Addr} {m mC : Str → Option Value} {zs fvs : List Value} {fs} (F : Fr g L h m) (hC : h.Ns C mC) (hD : h.get? D = some (LCg.lst zs)) (kc : KeepC Hs L C D h h') (x : FactsAt h fvs fs) : FactsAt h' fvs fs :=
  ⟨x.1, x.2.1, fun i v e => (x.2.2 i v e).imp id fun ⟨ps, ⟨t, vs, a, b, c⟩, d⟩ => ⟨ps, ⟨t, vs, a, keepC_tup F hC hD kc b, keepC_pairsL F hC hD kc c⟩, d⟩⟩
theorem get_snoc {α β : Type} {P : α → β → Prop} {xs : List α} {ys : List β} {x : α} {y : β} (hl : xs.length = ys.length) (h : ∀ (i : Nat) a, xs[i]? = some a → ∃ b, P a b ∧ ys[i]? = some b) (hp : P x y) : ∀ (i : Nat) a, (xs ++ [x])[i]? = some a → ∃ b, P a b ∧ (ys ++ [y])[i]? = some b := by
  intro i a e
  by_cases hi : i < xs.length
  · rw [List.getElem?_append_left hi] at e
    obtain ⟨b, e1, e2⟩ := h i a e
    exact ⟨b, e1, by rw [List.getElem?_append_left (by omega)]; exact e2⟩
  · have hl2 : i < (xs ++ [x]).length := (List.getElem?_eq_some_iff.mp e).1
    have hie : i = xs.length := by rw [List.length_append, List.length_singleton] at hl2; omega
    subst hie
    have hv : a = x := by simpa using e.symm
    subst hv
    exact ⟨y, hp, by rw [hl]; simp⟩
theorem full_snoc {h : Heap} {fvs : List Value} {fs} {v : Value} {ps : List (Int × Int)} (x : FullAt h fvs fs) (hp : PairsAt h v ps) (h2 : ps.length ≤ 2) : FullAt h (fvs ++ [v]) (fs ++ [ps]) :=
  ⟨by simp [x.1], fun f hf => (List.mem_append.mp hf).elim (x.2.1 f) (fun q => by rw [List.mem_singleton.mp q]; exact h2), get_snoc x.1 x.2.2 hp⟩
theorem full_nil {h : Heap} : FullAt h [] [] := ⟨rfl, (fun _ q => nomatch q), fun i v e => by simp at e⟩
theorem facts_nil {h : Heap} : FactsAt h [] [] := ⟨rfl, (fun _ q => nomatch q), fun i v e => by simp at e⟩
theorem facts_snoc {h : Heap} {fvs : List Value} {fs} {v : Value} {f : Option (List (Int × Int))} (x : FactsAt h fvs fs) (hp : (v = .none ∧ f = none) ∨ ∃ ps, PairsAt h v ps ∧ f = some ps ∧ ps.length ≤ 2) : FactsAt h (fvs ++ [v]) (fs ++ [f]) := by
  have y := get_snoc (P := fun v f => (v = .none ∧ f = none) ∨ ∃ ps, PairsAt h v ps ∧ f = some ps) (x := v) (y := f) x.1 (fun i a e => (x.2.2 i a e).elim (fun q => ⟨none, .inl ⟨q.1, rfl⟩, q.2⟩) fun ⟨ps, a, b⟩ => ⟨some ps, .inr ⟨ps, a, rfl⟩, b⟩)
    (hp.imp id fun ⟨ps, a, b, _⟩ => ⟨ps, a, b⟩)
  refine ⟨by simp [x.1], fun g hg ps e => ?_, fun i a e => ?_⟩
  · rcases List.mem_append.mp hg with q | q
    · exact x.2.1 g q ps e
    · rw [List.mem_singleton.mp q] at e
      rcases hp with ⟨_, rfl⟩ | ⟨ps', _, rfl, h2⟩
      · cases e
      · cases e; exact h2
  · obtain ⟨b, e1, e2⟩ := y i a e
    rcases e1 with ⟨q1, rfl⟩ | ⟨ps, q1, rfl⟩
    · exact .inl ⟨q1, e2⟩
    · exact .inr ⟨ps, q1, e2⟩
theorem pairsL_rep {h : Heap} {p : Addr} {b i : Int} {tb ti : Tok} (e : IsTup h p #[.int b tb, .int i ti]) : ∀ c, PairsL h (List.replicate c (.ref p)) (List.replicate c (b, i))
  | 0 => .nil
  | c + 1 => .cons e (pairsL_rep e c)
theorem toNat2 {r : Int} (h0 : 0 ≤ r) (h1 : r < 3) : ∃ c : Nat, c ≤ 2 ∧ r = (c : Int) := ⟨r.toNat, by omega, by omega⟩
theorem ne_src {h : Heap} {a src : Addr} {o : Obj} (e : h.get? a = some o) (hc : o.cls = .type "tuple") (hs : SrcOk h src) : a ≠ src := by
  rintro rfl
  obtain ⟨o', ho', p, r, t1, t2, n', rfl⟩ := hs
  rw [e] at ho'; cases ho'
  have hc' : Value.type "list" = Value.type "tuple" := hc
  simp at hc'
theorem ne_srcD {h : Heap} {a src : Addr} {o : Obj} (e : h.get? a = some o) (hd : ∀ its n, o.data ≠ .seq its n) (hs : SrcOk h src) : a ≠ src := by
  rintro rfl
  obtain ⟨o', ho', p, r, t1, t2, n', rfl⟩ := hs
  rw [e] at ho'; cases ho'
  exact hd _ _ rfl
theorem hid_get {h : Heap} {L src b : Addr} {o : Obj} (e : h.get? b = some o) (h1 : b ≠ L) (h2 : b ≠ src) : (hideAll h [L, src]).get? b = some o := hideAll_get _ e (by simp [h1, h2])
theorem hid_of {h : Heap} {L src b : Addr} {o : Obj} (e : (hideAll h [L, src]).get? b = some o) : h.get? b = some o ∧ b ≠ L ∧ b ≠ src := by
  refine ⟨of_hideAll _ e, fun q => ?_, fun q => ?_⟩
  · subst q; rw [hideAll_none [b, src] (.head _)] at e; cases e
  · subst q; rw [hideAll_none [L, b] (.tail _ (.head _))] at e; cases e
/-- what stays, from the loop's end on -/
theorem law_static {g h : Heap} {L src B R G Fa body dx : Addr} {m : Str → Option Value} {n : Nat} {bvs rvs gvs fvs : List Value} {fs : List (List (Int × Int))} {nb nr ng : Nat} {ob od : Obj} (F : Fr g L h m) (hs : SrcOk h src)
    (K : BlksX [L, src, B, R, G] h (n : Int) bvs rvs gvs) (hn : rvs.length = n) (h4 : n ≤ 4) (eB : h.get? B = some (listOf (List.toArray bvs) nb)) (eR : h.get? R = some (listOf (List.toArray rvs) nr)) (eG : h.get? G = some (listOf (List.toArray gvs) ng)) (eF : h.get? Fa = some (LCg.lst fvs))
    (b1 : B ≠ L) (b2 : B ≠ src) (r1 : R ≠ L) (r2 : R ≠ src) (g1 : G ≠ L) (g2 : G ≠ src) (f1 : Fa ≠ L) (f2 : Fa ≠ src) (hf : FullAt h fvs fs) (hfn : fvs.length = n) :
    ∃ (cs : List Nat) (ggs : List (List Int)), BlksAt (hideAll h [L, src]) (n : Int) bvs rvs gvs ∧ EndsAt (hideAll h [L, src]) bvs cs ggs ∧ RowsAt (hideAll h [L, src]) rvs cs ∧ GoalsAt (hideAll h [L, src]) gvs ggs cs.length ∧ LensAt (hideAll h [L, src]) bvs cs ∧ ggs.length = cs.length ∧ cs.length = fs.length ∧ cs.length = n ∧ FullAt (hideAll h [L, src]) fvs fs ∧
      (hideAll h [L, src]).IsList B bvs.toArray ∧ (hideAll h [L, src]).IsList R rvs.toArray ∧ (hideAll h [L, src]).IsList G gvs.toArray ∧ (hideAll h [L, src]).IsList Fa fvs.toArray := by
  have kt : KeepTup h (hideAll h [L, src]) := fun b vs k e => hid_get e (fun q => ns_no_tup F.ns vs k (q ▸ e)) (fun q => src_no_tup hs vs k (q ▸ e))
  have K' := (K.keep (fun b o e f nb => hid_get e (fun z => nb (z ▸ .head _)) (fun z => nb (.tail _ (z ▸ .head _)))) kt).blks (by omega)
  obtain ⟨cs, ggs, e1, e2, e3, e4, e5, e6⟩ := blks_parts K' (by rw [hn])
  have := hf.1
  exact ⟨cs, ggs, K', e3, e4, e5, e6, e2, by omega, by omega, full_but F hs (fun b o e q1 q2 => hid_get e q1 q2) hf, isl (hid_get eB b1 b2), isl (hid_get eR r1 r2), isl (hid_get eG g1 g2), isl (hid_get eF f1 f2)⟩
local macro_rules | `(tactic| k_room) => `(tactic| ((try simp only [depth_mark, depth_under_make, depth_under_kw, depth_in1, depth_deeper, depth_caller]); (try dsimp only [arnd]); omega))
set_option maxRecDepth 100000 in
set_option maxHeartbeats 16000000 in
theorem law_ok {w : World} {mean : ExcName → Option Value} {mg mb : Str → Option Value} {h₀ : Heap} {s : Shared} {sc : Addr} {vs : List Value} {ns : List Int} {Q E : Value → Shared → Prop}
    (X : (Mine.hd.heap_1 w.params).In h₀) (T : Top Mine.vw (looseW Mine.vw []) mean mg mb h₀) (st0 : h₀.StaysIn s.heap)
    (hl : s.heap.IsList sc (List.toArray vs)) (hi : IntsAre vs ns) (hn : vs.length ≤ 63)
    (hQ : ∀ h' tk', s.heap.StaysIn h' → Q (.bool true) { s with heap := h', toks := tk' }) :
    wpAny (model PySem.Challenge.pw_xm0585_01 w) callerA (call (.ref 228) [.ref sc]) Q E s := by
  have hd0 : 1 + claimMargin + (50 + 1) < recursionLimit := by decide
  have hu0 : 4 + (1000 + 3) < cLine := by decide
  refine' enterC0 (news := []) X T st0 (fun _ h => nomatch h) (fun _ h => nomatch h) ?ho ?hcd ?hroom ?hbind ?hkind ?hnd ?_ ?c3 ?c4 ?c5
  case ho => k_dflt k_is
  case hcd => k_dflt k_is
  case hroom => decide
  case hbind => exact BindsTo.of_eq rfl
  case hkind => exact rfl
  case hnd => decide +kernel
  case c3 => exact rfl
  case c4 => exact rfl
  case c5 => exact rfl
  intro g L' h₁ tk cells st1 st2 keep F' N' Y' X' T' nL l1 d' u' hd' hu'
  change Fr _ _ _ (bindL _ [(_, _)] _) at F'
  dsimp only [Option.map]
  have k : ∀ b o, s.heap.get? b = some o → g.get? b = some o := fun b o e => keep b o e (fun h => nomatch h)
  replace hl := hl.at (k sc)
  have hlf : Unit → g.IsList sc vs.toArray := fun _ => hl
  have K0 : Below callerA g [] g := below_caller g

  k_lt l1
  (have hY := CellsAre.one Y'; obtain ⟨o9, hE9, d9⟩ := hY; subst hE9; clear Y')
  (try simp only [List.cons_append, List.nil_append] at N')
  (try dsimp only)
  (repeat' ((fail_if_success (with_reducible refine stop_at (by first | (constructor; done) | exact .call (by decide)) ?_)); first | (k_unfold; (try dsimp only)) | (k_end; wrow_close) | ((first | ((with_reducible show wpAny _ _ (call (Value.builtin "list.append") [Value.ref _, _]) _ _ _); refine append_K (by k_asm) (by k_asm) (by k_upd) ?_ (by first | size_fits | (simp [sizeLine]; done) | ktr_units); intro hzz9 Fzz9 Nzz9; (try k_sweep)) | ((with_reducible show wpAny _ _ (call (Value.ref 154) _) _ _ _); refine take_use (by k_asm) (by k_asm) (by k_asm) (by k_asm) (by k_mem) (by assumption) (by intro ozz9; k_upd) (by ktr_room) (by ktr_room) (by first | decide | ktr_units | assumption) (by first | decide | ktr_units | assumption) ?_; k_whole; intro rzz9 tzz9 hzz9 tkzz9 ozz9 hr0zz9 hr1zz9 Fzz9 Nzz9 hozz9; (try dsimp only at Nzz9); (try k_sweep)) | ((with_reducible show wpAny _ _ (spliced _) _ _ _); refine' args_plain ?qSS ?qFF ?qkk ?qPP ?_; (case qSS => rfl); (case qFF => k_asm); (case qkk => rfl); (case qPP => repeat' first | exact Plain.nil | (apply Plain.name; exact rfl; exact rfl; decide) | apply Plain.none | apply Plain.bool | apply Plain.int | apply Plain.str); k_whole; (try dsimp only [List.cons_append, List.nil_append])) | walk1) <;> first | (with_reducible show wpAny _ _ (subscriptTail _ (PySem.Expr.Slice _ _ _ _) _ _) _ _ _) | (try dsimp only)) | (dsimp only; walk1) | (leave1; try dsimp only) | fail "no step"))
  rename Fr _ _ _ _ => F₁; rename News _ _ _ _ => N₁
  refine' all_facts_ok (bvs := [?b0]) (cs := [1]) (fvs := [?f0]) (fs := [some []]) X' T' F₁.keep ?qe ?qu ?hB ?hbl ?hL ?hfl ?hF rfl ?_
  case qe => ktr_room
  case qu => ktr_room
  case hB => exact ⟨_, _, _, _, _, _, _, _, _, _, _, _, _, _, _, _, N₁.get (by k_mem), N₁.get (by k_mem)⟩
  case hbl => exact N₁.isList (by k_mem)
  case hfl => exact N₁.isList (by k_mem)
  case hL =>
    refine ⟨rfl, by decide, by decide, fun i v e => ?_⟩
    match i, e with
    | 0, e => cases e; exact ⟨_, _, _, [_], rfl, N₁.isList (by k_mem), N₁.isList (by k_mem), rfl⟩
    | i + 1, e => simp at e
  case hF =>
    refine ⟨rfl, by simp, fun i v e => ?_⟩
    match i, e with
    | 0, e => cases e; exact .inr ⟨[], ⟨_, [], rfl, N₁.isTup (by k_mem), .nil⟩, rfl⟩
    | i + 1, e => simp at e
  intro r₂ h₂ tk₂ fr₂ st₂ hD₂
  refine hide (fun P9 toP9 => ?_)
  obtain ⟨F₂, N₂⟩ := stays_back F₁ N₁ st₂
  have cl₂ : News g L' h₂ [(L' + 1, o9)] := fun p hp => N₂ p (by rw [List.mem_singleton.mp hp]; k_mem)
  obtain ⟨oL, hoL⟩ := ns_some F₁.ns
  have nL₂ : r₂ ≠ L' := fun q => by rw [q, hoL] at fr₂; cases fr₂
  have cl₂' := cl₂ _ (.head _)
  obtain ⟨D2, N2, -, hDD2⟩ := refresh F₂ News.nil
  (refine toP9 ?_; clear toP9 P9)
  have N2' := news_cons (p := (L' + 1, o9)) cl₂' N2
  have k2 : ∀ h' m' news', Fr g L' h' m' → News g L' h' news' → (∀ p ∈ D2, p ∈ news') → ∀ b o, h₂.get? b = some o → b ≠ L' → h'.get? b = some o := fun _ _ _ a b c => keepAll_of hDD2 a b c
  have kd2 := fun h' (q : ∀ b o, h₂.get? b = some o → b ≠ L' → h'.get? b = some o) => dat_keeps (h' := h') F₂ nL₂ (fun x o e hx _ => q x o e hx) hD₂
  have hnm := F₂.notModules (modules_low T'.nolimit)
  have hD3 := dat_new (prog := PySem.Challenge.pw_xm0585_01) (w := w) hnm
  have F₃ := F₂.push ({ cls := .type "dict", data := .dict #[] } : Obj)
  have N₃ := N2'.push F₂ ({ cls := .type "dict", data := .dict #[] } : Obj)
  have nd3 := N₃ _ (.head _)
  clear hDD2 N2 N2' hoL
  (try clear F₁); (try clear N₁); (try clear N₂)
  (try dsimp only)
  refine' wpAny_Dict_any ?qa ?qb ?qc ?qd ?_
  case qa => rfl
  case qb => rfl
  case qd => decide
  case qc => exact List.cons_ne_nil _ _
  (try dsimp only)
  refine hide (fun P9 toP9 => ?_)
  obtain ⟨D3, N3, -, hDD3⟩ := refresh F₃ News.nil
  (refine toP9 ?_; clear toP9 P9)
  have N3' := news_cons (p := (L' + 1, o9)) (N₃ _ (.tail _ (.head _))) N3
  have k3 : ∀ h' m' news', Fr g L' h' m' → News g L' h' news' → (∀ p ∈ D3, p ∈ news') → ∀ b o, Heap.get? _ b = some o → b ≠ L' → h'.get? b = some o := fun _ _ _ a b c => keepAll_of hDD3 a b c
  have kd3 := fun h' (q : ∀ b o, Heap.get? _ b = some o → b ≠ L' → h'.get? b = some o) => dat_keeps (h' := h') F₃ nd3.2.1 (fun x o e hx _ => q x o e hx) hD3
  have up3 : ∀ b o, h₂.get? b = some o → (h₂.push { cls := .type "dict", data := .dict #[] }).get? b = some o := fun b o e => Heap.get?_push_of_some _ e
  clear hDD3 N₃ F₂ N3
  (repeat' ((fail_if_success (with_reducible refine stop_at (by first | (constructor; done) | exact .call (by decide)) ?_)); first | (k_unfold; (try dsimp only)) | (k_end; wrow_close) | ((first | ((with_reducible show wpAny _ _ (call (Value.builtin "list.append") [Value.ref _, _]) _ _ _); refine append_K (by k_asm) (by k_asm) (by k_upd) ?_ (by first | size_fits | (simp [sizeLine]; done) | ktr_units); intro hzz9 Fzz9 Nzz9; (try k_sweep)) | ((with_reducible show wpAny _ _ (call (Value.ref 154) _) _ _ _); refine take_use (by k_asm) (by k_asm) (by k_asm) (by k_asm) (by k_mem) (by assumption) (by intro ozz9; k_upd) (by ktr_room) (by ktr_room) (by first | decide | ktr_units | assumption) (by first | decide | ktr_units | assumption) ?_; k_whole; intro rzz9 tzz9 hzz9 tkzz9 ozz9 hr0zz9 hr1zz9 Fzz9 Nzz9 hozz9; (try dsimp only at Nzz9); (try k_sweep)) | ((with_reducible show wpAny _ _ (spliced _) _ _ _); refine' args_plain ?qSS ?qFF ?qkk ?qPP ?_; (case qSS => rfl); (case qFF => k_asm); (case qkk => rfl); (case qPP => repeat' first | exact Plain.nil | (apply Plain.name; exact rfl; exact rfl; decide) | apply Plain.none | apply Plain.bool | apply Plain.int | apply Plain.str); k_whole; (try dsimp only [List.cons_append, List.nil_append])) | walk1) <;> first | (with_reducible show wpAny _ _ (subscriptTail _ (PySem.Expr.Slice _ _ _ _) _ _) _ _ _) | (try dsimp only)) | (dsimp only; walk1) | (leave1; try dsimp only) | fail "no step"))
  rename Fr _ _ _ _ => F₄; rename News _ _ _ _ => N₄
  have q4 := k3 _ _ _ F₄ N₄ (fun p hp => .tail _ (.tail _ (.tail _ (.tail _ (.tail _ (.tail _ hp))))))
  have q24 : ∀ b o, h₂.get? b = some o → b ≠ L' → Heap.get? _ b = some o := fun b o e hb => q4 b o (up3 b o e) hb
  have hr4 := kd2 _ q24
  have hd4 := kd3 _ q4
  have hne : r₂ ≠ h₂.objs.size := Nat.ne_of_lt hD₂.lt
  have cl4 := N₄ (L' + 1, o9) (by k_mem)
  refine storeAll_cons (dat_disp (b := 0) (i := 0) (ps := []) (by ktr_room) hd4 (N₄.isTup (.tail _ (.tail _ (.tail _ (.tail _ (.head _)))))) ⟨_, [], rfl, N₄.isTup (.tail _ (.tail _ (.tail _ (.head _)))), .nil⟩ (by simp) (by simp) ?_)
  intro h₅ tk₅ hd5 hs5
  have F₅ := F₄.change hs5 nd3.2.1 nd3.2.2
  have hr5 := dat_other hne hd4 hs5 hr4
  have cl5 := pairs_cell hd4 hs5 cl4.1 d9
  refine storeAll_cons (dat_disp (b := 0) (i := 1) (ps := [(0, 0)]) (by ktr_room) hd5 (tup_set hd4 hs5 (N₄.isTup (.tail _ (.tail _ (.head _))))) (pairs_set hd4 hs5 ⟨_, [_], rfl, N₄.isTup (.head _), .cons (N₄.isTup (.tail _ (.head _))) .nil⟩) (by decide) (by decide) ?_)
  intro h₆ tk₆ hd6 hs6
  have F₆ := F₅.change hs6 nd3.2.1 nd3.2.2
  have hr6 := dat_other hne hd5 hs6 hr5
  have cl6 := pairs_cell hd5 hs6 cl5 d9
  refine storeAll_nil ?_
  refine hide (fun P9 toP9 => ?_)
  have N₆ : News g L' h₆ [(L' + 1, o9)] := news_cons ⟨cl6, cl4.2⟩ News.nil
  clear k2 k3 kd2 kd3 hD₂ hD3 st₂ cl₂ fr₂ q4 q24 hr4 hd4 hr5 hd5
  have P := And.intro F₆ N₆
  clear F₆ N₆
  repeat (rename Fr _ _ _ _ => Fx; clear Fx)
  repeat (rename News _ _ _ _ => Nx; clear Nx)
  obtain ⟨F₆, N₆⟩ := P
  (refine toP9 ?_; clear toP9 P9)
  (try dsimp only)
  (repeat' ((fail_if_success (with_reducible refine stop_at (by first | (constructor; done) | exact .call (by decide)) ?_)); first | (k_unfold; (try dsimp only)) | (k_end; wrow_close) | ((first | ((with_reducible show wpAny _ _ (call (Value.builtin "list.append") [Value.ref _, _]) _ _ _); refine append_K (by k_asm) (by k_asm) (by k_upd) ?_ (by first | size_fits | (simp [sizeLine]; done) | ktr_units); intro hzz9 Fzz9 Nzz9; (try k_sweep)) | ((with_reducible show wpAny _ _ (call (Value.ref 154) _) _ _ _); refine take_use (by k_asm) (by k_asm) (by k_asm) (by k_asm) (by k_mem) (by assumption) (by intro ozz9; k_upd) (by ktr_room) (by ktr_room) (by first | decide | ktr_units | assumption) (by first | decide | ktr_units | assumption) ?_; k_whole; intro rzz9 tzz9 hzz9 tkzz9 ozz9 hr0zz9 hr1zz9 Fzz9 Nzz9 hozz9; (try dsimp only at Nzz9); (try k_sweep)) | ((with_reducible show wpAny _ _ (spliced _) _ _ _); refine' args_plain ?qSS ?qFF ?qkk ?qPP ?_; (case qSS => rfl); (case qFF => k_asm); (case qkk => rfl); (case qPP => repeat' first | exact Plain.nil | (apply Plain.name; exact rfl; exact rfl; decide) | apply Plain.none | apply Plain.bool | apply Plain.int | apply Plain.str); k_whole; (try dsimp only [List.cons_append, List.nil_append])) | walk1) <;> first | (with_reducible show wpAny _ _ (subscriptTail _ (PySem.Expr.Slice _ _ _ _) _ _) _ _ _) | (try dsimp only)) | (dsimp only; walk1) | (leave1; try dsimp only) | fail "no step"))
  refine dict_ne (by ktr_room) hr6 hd6 (by decide) (by decide) ?_
  clear hr6 hd6
  (try dsimp only)
  (repeat' ((fail_if_success (with_reducible refine stop_at (by first | (constructor; done) | exact .call (by decide)) ?_)); first | (k_unfold; (try dsimp only)) | (k_end; wrow_close) | ((first | ((with_reducible show wpAny _ _ (call (Value.builtin "list.append") [Value.ref _, _]) _ _ _); refine append_K (by k_asm) (by k_asm) (by k_upd) ?_ (by first | size_fits | (simp [sizeLine]; done) | ktr_units); intro hzz9 Fzz9 Nzz9; (try k_sweep)) | ((with_reducible show wpAny _ _ (call (Value.ref 154) _) _ _ _); refine take_use (by k_asm) (by k_asm) (by k_asm) (by k_asm) (by k_mem) (by assumption) (by intro ozz9; k_upd) (by ktr_room) (by ktr_room) (by first | decide | ktr_units | assumption) (by first | decide | ktr_units | assumption) ?_; k_whole; intro rzz9 tzz9 hzz9 tkzz9 ozz9 hr0zz9 hr1zz9 Fzz9 Nzz9 hozz9; (try dsimp only at Nzz9); (try k_sweep)) | ((with_reducible show wpAny _ _ (spliced _) _ _ _); refine' args_plain ?qSS ?qFF ?qkk ?qPP ?_; (case qSS => rfl); (case qFF => k_asm); (case qkk => rfl); (case qPP => repeat' first | exact Plain.nil | (apply Plain.name; exact rfl; exact rfl; decide) | apply Plain.none | apply Plain.bool | apply Plain.int | apply Plain.str); k_whole; (try dsimp only [List.cons_append, List.nil_append])) | walk1) <;> first | (with_reducible show wpAny _ _ (subscriptTail _ (PySem.Expr.Slice _ _ _ _) _ _) _ _ _) | (try dsimp only)) | (dsimp only; walk1) | (leave1; try dsimp only) | fail "no step"))
  refine pool_ok X' T' F₆.keep (by ktr_room) (by ktr_room) (F₆.lst (hlf ())) hi hn ?_
  intro src h₇ tk₇ st₇ hs₇ fr₇
  refine hide (fun P9 toP9 => ?_)
  obtain ⟨os, hos, hso⟩ := hs₇
  obtain ⟨F₇, N₇a⟩ := stays_back F₆ N₆ st₇
  have gsrc : g.get? src = none := none_of F₆.keep fr₇
  obtain ⟨oL, hoL⟩ := ns_some F₆.ns
  have nsL : src ≠ L' := fun q => by rw [q, hoL] at fr₇; cases fr₇
  have nsC : src ≠ L' + 1 := fun q => by rw [q, cl6] at fr₇; cases fr₇
  have N₇ := news_cons (p := (src, os)) ⟨hos, nsL, gsrc⟩ N₇a
  clear F₆ N₆ N₇a hoL
  (refine toP9 ?_; clear toP9 P9)
  (try dsimp only)
  (repeat' ((fail_if_success (with_reducible refine stop_at (by first | (constructor; done) | exact .call (by decide)) ?_)); first | (k_unfold; (try dsimp only)) | (k_end; wrow_close) | ((first | ((with_reducible show wpAny _ _ (call (Value.builtin "list.append") [Value.ref _, _]) _ _ _); refine append_K (by k_asm) (by k_asm) (by k_upd) ?_ (by first | size_fits | (simp [sizeLine]; done) | ktr_units); intro hzz9 Fzz9 Nzz9; (try k_sweep)) | ((with_reducible show wpAny _ _ (call (Value.ref 154) _) _ _ _); refine take_use (by k_asm) (by k_asm) (by k_asm) (by k_asm) (by k_mem) (by assumption) (by intro ozz9; k_upd) (by ktr_room) (by ktr_room) (by first | decide | ktr_units | assumption) (by first | decide | ktr_units | assumption) ?_; k_whole; intro rzz9 tzz9 hzz9 tkzz9 ozz9 hr0zz9 hr1zz9 Fzz9 Nzz9 hozz9; (try dsimp only at Nzz9); (try k_sweep)) | ((with_reducible show wpAny _ _ (spliced _) _ _ _); refine' args_plain ?qSS ?qFF ?qkk ?qPP ?_; (case qSS => rfl); (case qFF => k_asm); (case qkk => rfl); (case qPP => repeat' first | exact Plain.nil | (apply Plain.name; exact rfl; exact rfl; decide) | apply Plain.none | apply Plain.bool | apply Plain.int | apply Plain.str); k_whole; (try dsimp only [List.cons_append, List.nil_append])) | walk1) <;> first | (with_reducible show wpAny _ _ (subscriptTail _ (PySem.Expr.Slice _ _ _ _) _ _) _ _ _) | (try dsimp only)) | (dsimp only; walk1) | (leave1; try dsimp only) | fail "no step"))
  rename Fr _ _ _ _ => F₈; rename News _ _ _ _ => N₈; rename 0 ≤ _ => hr0; rename _ < (4 : Int) => hr1; rename _ = Data.cell (some (Value.ref src)) => dsrc
  refine hide (fun P9 toP9 => ?_)
  obtain ⟨m₀, B, R, G, oc, tkm, nB, nR, nG, os', n, ⟨n1, n2, n3, n4, n5, n6, n7, n8, n9⟩, hn1, hn4, F₉, N₉, hso', dc⟩ := name3 F₈ N₈ hr0 hr1 (by assumption) dsrc (by k_ne) (by k_ne) (by k_ne) (by k_ne) (by k_ne) (by k_ne) (by k_ne) (by k_ne) (by k_ne)
  (refine toP9 ?_; clear toP9 P9)
  have eG := (N₉ _ (.head _)).2; have eR := (N₉ _ (.tail _ (.head _))).2; have eB := (N₉ _ (.tail _ (.tail _ (.head _)))).2; have eC := (N₉ _ (.tail _ (.tail _ (.tail _ (.tail _ (.head _)))))).2
  have P := And.intro F₉ N₉
  clear F₈ N₈ F₉ N₉
  repeat (rename Fr _ _ _ _ => Fx; clear Fx)
  repeat (rename News _ _ _ _ => Nx; clear Nx)
  refine hide (fun P9 toP9 => ?_)
  obtain ⟨F₉, N₉⟩ := P
  (refine toP9 ?_; clear toP9 P9)
  (try dsimp only)
  refine wpAny_For ?_ (by intro _; rfl)
  (repeat' ((fail_if_success (with_reducible refine stop_at (by first | (constructor; done) | exact .call (by decide)) ?_)); first | (k_unfold; (try dsimp only)) | (k_end; wrow_close) | ((first | ((with_reducible show wpAny _ _ (call (Value.builtin "list.append") [Value.ref _, _]) _ _ _); refine append_K (by k_asm) (by k_asm) (by k_upd) ?_ (by first | size_fits | (simp [sizeLine]; done) | ktr_units); intro hzz9 Fzz9 Nzz9; (try k_sweep)) | ((with_reducible show wpAny _ _ (call (Value.ref 154) _) _ _ _); refine take_use (by k_asm) (by k_asm) (by k_asm) (by k_asm) (by k_mem) (by assumption) (by intro ozz9; k_upd) (by ktr_room) (by ktr_room) (by first | decide | ktr_units | assumption) (by first | decide | ktr_units | assumption) ?_; k_whole; intro rzz9 tzz9 hzz9 tkzz9 ozz9 hr0zz9 hr1zz9 Fzz9 Nzz9 hozz9; (try dsimp only at Nzz9); (try k_sweep)) | ((with_reducible show wpAny _ _ (spliced _) _ _ _); refine' args_plain ?qSS ?qFF ?qkk ?qPP ?_; (case qSS => rfl); (case qFF => k_asm); (case qkk => rfl); (case qPP => repeat' first | exact Plain.nil | (apply Plain.name; exact rfl; exact rfl; decide) | apply Plain.none | apply Plain.bool | apply Plain.int | apply Plain.str); k_whole; (try dsimp only [List.cons_append, List.nil_append])) | walk1) <;> first | (with_reducible show wpAny _ _ (subscriptTail _ (PySem.Expr.Slice _ _ _ _) _ _) _ _ _) | (try dsimp only)) | (dsimp only; walk1) | (leave1; try dsimp only) | fail "no step"))
  rename IsRange _ _ _ _ _ _ _ _ => hR; rename Fr _ _ _ _ => F₁₀; rename News _ _ _ _ => N₁₀
  have J₀ : LoopJ L' src B R G (L' + 1) oc n 0 _ := ⟨N₁₀.get (by k_mem), ⟨_, N₁₀.get (by k_mem), hso'⟩, [], [], [], nB, nR, nG, N₁₀.get (by k_mem), N₁₀.get (by k_mem), N₁₀.get (by k_mem), rfl, BlksX.nil⟩
  refine range_H (n := n) (fun b m h => AgreeOff [Str.ofString "some", Str.ofString "end", Str.ofString "due", Str.ofString "ways", Str.ofString "block"] _ m ∧ LoopJ L' src B R G (L' + 1) oc n b h) rfl hR ?sm ?sz rfl rfl F₁₀ ⟨.refl, J₀⟩ ?stab ?step ?done
  case sm => exact small_to (n := n) (by omega)
  case sz => exact size_to _
  case stab => exact fun b m h h' F hJ ko => ⟨hJ.1, loopJ_off F dc eC.1 nsL eB.1 eR.1 eG.1 hJ.2 ko⟩
  case done =>
    intro m' h tk' hJ F'
    refine hide (fun P9 toP9 => ?_)
    have F9 := F'
    rw [AgreeOff.form hJ.1] at F9
    obtain ⟨x1, ⟨o1, x2, ho1⟩, bvs, rvs, gvs, nb, nr, ng, y1, y2, y3, y4, y5⟩ := hJ.2
    obtain ⟨D, N, hDn, hDD⟩ := refresh F9 (news_cons (p := (src, o1)) ⟨x2, nsL, gsrc⟩ News.nil)
    have d1 := off_ms hDn (a := src) (.head _)
    have N' := news_cons (p := (src, o1)) ⟨x2, nsL, gsrc⟩ (news_cons (p := (L' + 1, oc)) ⟨x1, eC⟩ N)
    have kk : ∀ h' m' news', Fr g L' h' m' → News g L' h' news' → (∀ p ∈ D, p ∈ news') → ∀ b o, h.get? b = some o → b ≠ L' → b ∉ [src] → h'.get? b = some o := fun _ _ _ a b c => keepMs_of hDD a b c
    have kt0 := fun (h' : Heap) (q : ∀ b o, h.get? b = some o → b ≠ L' → b ∉ [src] → h'.get? b = some o) => keepTup_ms (h' := h') F9 q (by intro b hb vs n; rw [List.mem_singleton.mp hb]; exact src_no_tup ⟨o1, x2, ho1⟩ vs n)
    clear hDD N F' hJ hDn; (try clear F₉); (try clear N₉); (try clear F₁₀); (try clear N₁₀); (try clear hR)
    (refine toP9 ?_; clear toP9 P9)
    (try dsimp only)
    (repeat' ((fail_if_success (with_reducible refine stop_at (by first | (constructor; done) | exact .call (by decide)) ?_)); first | (k_unfold; (try dsimp only)) | (k_end; wrow_close) | ((first | ((with_reducible show wpAny _ _ (call (Value.builtin "list.append") [Value.ref _, _]) _ _ _); refine append_K (by k_asm) (by k_asm) (by k_upd) ?_ (by first | size_fits | (simp [sizeLine]; done) | ktr_units); intro hzz9 Fzz9 Nzz9; (try k_sweep)) | ((with_reducible show wpAny _ _ (call (Value.ref 154) _) _ _ _); refine take_use (by k_asm) (by k_asm) (by k_asm) (by k_asm) (by k_mem) (by assumption) (by intro ozz9; k_upd) (by ktr_room) (by ktr_room) (by first | decide | ktr_units | assumption) (by first | decide | ktr_units | assumption) ?_; k_whole; intro rzz9 tzz9 hzz9 tkzz9 ozz9 hr0zz9 hr1zz9 Fzz9 Nzz9 hozz9; (try dsimp only at Nzz9); (try k_sweep)) | ((with_reducible show wpAny _ _ (spliced _) _ _ _); refine' args_plain ?qSS ?qFF ?qkk ?qPP ?_; (case qSS => rfl); (case qFF => k_asm); (case qkk => rfl); (case qPP => repeat' first | exact Plain.nil | (apply Plain.name; exact rfl; exact rfl; decide) | apply Plain.none | apply Plain.bool | apply Plain.int | apply Plain.str); k_whole; (try dsimp only [List.cons_append, List.nil_append])) | walk1) <;> first | (with_reducible show wpAny _ _ (subscriptTail _ (PySem.Expr.Slice _ _ _ _) _ _) _ _ _) | (try dsimp only)) | (dsimp only; walk1) | (leave1; try dsimp only) | fail "no step"))
    rename Fr _ _ _ _ => F₂; rename News _ _ _ _ => N₂
    refine KMa.mul (vs := [_]) F₂ N₂ (N₂.isList (.head _)) (by decide) (by decide) (by simp) rfl ?_
    intro Dm hm Fm Nm lm
    (try k_lt lm)
    clear F₂ N₂
    (try dsimp only)
    (repeat' ((fail_if_success (with_reducible refine stop_at (by first | (constructor; done) | exact .call (by decide)) ?_)); first | (k_unfold; (try dsimp only)) | (k_end; wrow_close) | ((first | ((with_reducible show wpAny _ _ (call (Value.builtin "list.append") [Value.ref _, _]) _ _ _); refine append_K (by k_asm) (by k_asm) (by k_upd) ?_ (by first | size_fits | (simp [sizeLine]; done) | ktr_units); intro hzz9 Fzz9 Nzz9; (try k_sweep)) | ((with_reducible show wpAny _ _ (call (Value.ref 154) _) _ _ _); refine take_use (by k_asm) (by k_asm) (by k_asm) (by k_asm) (by k_mem) (by assumption) (by intro ozz9; k_upd) (by ktr_room) (by ktr_room) (by first | decide | ktr_units | assumption) (by first | decide | ktr_units | assumption) ?_; k_whole; intro rzz9 tzz9 hzz9 tkzz9 ozz9 hr0zz9 hr1zz9 Fzz9 Nzz9 hozz9; (try dsimp only at Nzz9); (try k_sweep)) | ((with_reducible show wpAny _ _ (spliced _) _ _ _); refine' args_plain ?qSS ?qFF ?qkk ?qPP ?_; (case qSS => rfl); (case qFF => k_asm); (case qkk => rfl); (case qPP => repeat' first | exact Plain.nil | (apply Plain.name; exact rfl; exact rfl; decide) | apply Plain.none | apply Plain.bool | apply Plain.int | apply Plain.str); k_whole; (try dsimp only [List.cons_append, List.nil_append])) | walk1) <;> first | (with_reducible show wpAny _ _ (subscriptTail _ (PySem.Expr.Slice _ _ _ _) _ _) _ _ _) | (try dsimp only)) | (dsimp only; walk1) | (leave1; try dsimp only) | fail "no step"))
    rename Fr _ _ _ _ => F₃; rename News _ _ _ _ => N₃
    have q3 := kk _ _ _ F₃ N₃ (fun p hp => by repeat (first | exact hp | refine List.Mem.tail _ ?_))
    have hB3 : BodyAt _ _ B := ⟨_, _, _, _, _, _, _, _, _, _, _, _, _, _, _, _, N₃.get (.tail _ (.tail _ (.head _))), N₃.get (.tail _ (.tail _ (.tail _ (.head _))))⟩
    have hbN := N₃ _ (.tail _ (.tail _ (.head _))); have hdN := N₃ _ (.tail _ (.tail _ (.tail _ (.head _))))
    have s3 := N₃ (src, o1) (by k_mem)
    have C3 := N₃ (L' + 1, oc) (by k_mem)
    refine hide (fun P9 toP9 => ?_)
    obtain ⟨D3, N3, hDn3, hDD3⟩ := refresh F₃ (news_cons s3 News.nil)
    (refine toP9 ?_; clear toP9 P9)
    have d3 := off_ms hDn3 (a := src) (.head _)
    have N3' := news_cons s3 (news_cons C3 N3)
    have k34 : ∀ h' m' news', Fr g L' h' m' → News g L' h' news' → (∀ p ∈ D3, p ∈ news') → ∀ b o, Heap.get? _ b = some o → b ≠ L' → b ∉ [src] → h'.get? b = some o := fun _ _ _ a b c => keepMs_of hDD3 a b c
    have hs3 : SrcOk _ src := ⟨o1, s3.1, ho1⟩
    have bs3 := ne_srcD hbN.1 (fun _ _ q => nomatch q) hs3; have ds3 := ne_srcD hdN.1 (fun _ _ q => nomatch q) hs3
    clear hDD3 N3 N₃ hDn3
    refine Assign_Comp_E F₃ (fun H i' ys hh => (∀ b o, H.get? b = some o → b ≠ L' → b ≠ src → hh.get? b = some o) ∧ SrcOk hh src ∧ ys.length = i' ∧ ∃ fs, FullAt hh ys fs) ?stab3 (by with_unfolding_all rfl) (by with_unfolding_all rfl) (by decide) (by rfl) (by decide) rfl rfl ?_
    case stab3 => exact fun i' ys zs h h' C D mC F hC hD hC₀ hD₀ hJ kc => ⟨keepC_oldS hC₀ hD₀ hJ.1 kc, keepC_src s3.1 hC₀ hD₀ nsL kc hJ.2.1, hJ.2.2.1, let ⟨fs, x⟩ := hJ.2.2.2; ⟨fs, full_keepC F hC hD kc x⟩⟩
    (repeat' ((fail_if_success (with_reducible refine stop_at (by first | (constructor; done) | exact .call (by decide)) ?_)); first | (k_unfold; (try dsimp only)) | (k_end; wrow_close) | ((first | ((with_reducible show wpAny _ _ (call (Value.builtin "list.append") [Value.ref _, _]) _ _ _); refine append_K (by k_asm) (by k_asm) (by k_upd) ?_ (by first | size_fits | (simp [sizeLine]; done) | ktr_units); intro hzz9 Fzz9 Nzz9; (try k_sweep)) | ((with_reducible show wpAny _ _ (call (Value.ref 154) _) _ _ _); refine take_use (by k_asm) (by k_asm) (by k_asm) (by k_asm) (by k_mem) (by assumption) (by intro ozz9; k_upd) (by ktr_room) (by ktr_room) (by first | decide | ktr_units | assumption) (by first | decide | ktr_units | assumption) ?_; k_whole; intro rzz9 tzz9 hzz9 tkzz9 ozz9 hr0zz9 hr1zz9 Fzz9 Nzz9 hozz9; (try dsimp only at Nzz9); (try k_sweep)) | ((with_reducible show wpAny _ _ (spliced _) _ _ _); refine' args_plain ?qSS ?qFF ?qkk ?qPP ?_; (case qSS => rfl); (case qFF => k_asm); (case qkk => rfl); (case qPP => repeat' first | exact Plain.nil | (apply Plain.name; exact rfl; exact rfl; decide) | apply Plain.none | apply Plain.bool | apply Plain.int | apply Plain.str); k_whole; (try dsimp only [List.cons_append, List.nil_append])) | walk1) <;> first | (with_reducible show wpAny _ _ (subscriptTail _ (PySem.Expr.Slice _ _ _ _) _ _) _ _ _) | (try dsimp only)) | (dsimp only; walk1) | (leave1; try dsimp only) | fail "no step"))
    rename IsRange _ _ _ _ _ _ _ _ => hR2; rename Fr _ _ _ _ => F₄; rename News _ _ _ _ => N₄
    refine wpAny_pyIter_range hR2 (small_to (n := n) (by omega)) ?_
    rw [size_to]
    have k4 := k34 _ _ _ F₄ N₄ (fun p hp => .tail _ (.tail _ hp))
    have hs4 : SrcOk _ src := ⟨_, N₄.get (.head _), ho1⟩
    have al4 : ∀ b o, Heap.get? _ b = some o → b ≠ L' → Heap.get? _ b ≠ none := fun b o e hb q => by
      by_cases hbs : b = src
      · obtain ⟨o', ho', _⟩ := hs4
        rw [hbs, ho'] at q; cases q
      · rw [k4 b o e hb (by simpa using hbs)] at q; cases q
    refine ⟨n, compE_range rfl F₄ al4 rfl rfl (by unfold sizeLine; omega) (fun h' kh => ⟨fun b o e b1 b2 => kh _ _ (k4 b o e b1 (by simpa using b2)), srcOk_keep hs4 (fun o e _ => kh _ _ e), rfl, [], full_nil⟩) 0 1 ?el3, ?after3⟩
    case el3 =>
      intro C D' i' hh tkh ys mC R' hi' hy ⟨tt, hm1⟩ F₅ hC hD n1' n2' n3' n4' n5' hC₀ hD₀ hJ'
      refine hide (fun P9 toP9 => ?_)
      rw [show (0 + (i' : Int) * 1) = (i' : Int) by omega] at hm1
      obtain ⟨oC, hoC, nC⟩ := LCg.ns_obj hC
      obtain ⟨hk', ⟨os4, hos4, hso4⟩, hyl, fs, hfs⟩ := hJ'
      have hc4 := hk' _ _ C3.1 C3.2.1 (Ne.symm nsC)
      have nsC' : src ≠ C := fun q => by have z := s3.1; rw [q, hC₀] at z; cases z
      have nsD' : src ≠ D' := fun q => by have z := s3.1; rw [q, hD₀] at z; cases z
      have nCL : C ≠ L' + 1 := fun q => by have z := C3.1; rw [← q, hC₀] at z; cases z
      obtain ⟨D5, N5, hDn5, hDD5⟩ := refresh F₅ (news_cons (p := (src, os4)) ⟨hos4, nsL, gsrc⟩ News.nil)
      have d5 := off_ms hDn5 (a := src) (.head _)
      have N₅ := news_cons (p := (src, os4)) ⟨hos4, nsL, gsrc⟩ (news_cons (p := (C, oC)) ⟨hoC, Ne.symm n2', n4'⟩ (news_cons (p := (D', LCg.lst ys)) ⟨hD, Ne.symm n3', n5'⟩ (news_cons (p := (L' + 1, oc)) ⟨hc4, C3.2⟩ N5)))
      have k5 : ∀ h' m' news', Fr g L' h' m' → News g L' h' news' → (∀ p ∈ D5, p ∈ news') → ∀ b o, hh.get? b = some o → b ≠ L' → b ∉ [src] → h'.get? b = some o := fun _ _ _ a b c => keepMs_of hDD5 a b c
      have kf5 := fun (h' : Heap) (q : ∀ b o, hh.get? b = some o → b ≠ L' → b ≠ src → h'.get? b = some o) => full_but (h' := h') F₅ ⟨os4, hos4, hso4⟩ q hfs
      have nf5 := ns_fields F₅
      have ki5 : ∀ h' : Heap, (∀ b o, hh.get? b = some o → b ≠ L' → b ≠ src → h'.get? b = some o) → KeepIt hh h' := fun h' q b o e f => q b o e (fun z => by rw [nf5 o (z ▸ e)] at f; cases f) (fun z => by subst z; rw [hos4] at e; cases e; obtain ⟨p, q, t1, t2, n, rfl⟩ := hso4; cases f)
      clear hDD5 N5 hDn5; (try clear F₄); (try clear N₄); (try clear hR2)
      (refine toP9 ?_; clear toP9 P9)
      (try dsimp only)
      (repeat' ((fail_if_success (with_reducible show wpAny _ _ (call (Value.ref 154) _) _ _ _)); (fail_if_success (with_reducible show wpAny _ _ (call (Value.ref 161) _) _ _ _)); (fail_if_success (with_reducible refine stop_at (by first | (constructor; done) | exact .call (by decide)) ?_)); first | (k_unfold; (try dsimp only)) | (k_end; wrow_close) | ((first | ((with_reducible show wpAny _ _ (call (Value.builtin "list.append") [Value.ref _, _]) _ _ _); refine append_K (by k_asm) (by k_asm) (by k_upd) ?_ (by first | size_fits | (simp [sizeLine]; done) | ktr_units); intro hzz9 Fzz9 Nzz9; (try k_sweep)) | ((with_reducible show wpAny _ _ (call (Value.ref 154) _) _ _ _); refine take_use (by k_asm) (by k_asm) (by k_asm) (by k_asm) (by k_mem) (by assumption) (by intro ozz9; k_upd) (by ktr_room) (by ktr_room) (by first | decide | ktr_units | assumption) (by first | decide | ktr_units | assumption) ?_; k_whole; intro rzz9 tzz9 hzz9 tkzz9 ozz9 hr0zz9 hr1zz9 Fzz9 Nzz9 hozz9; (try dsimp only at Nzz9); (try k_sweep)) | ((with_reducible show wpAny _ _ (spliced _) _ _ _); refine' args_plain ?qSS ?qFF ?qkk ?qPP ?_; (case qSS => rfl); (case qFF => k_asm); (case qkk => rfl); (case qPP => repeat' first | exact Plain.nil | (apply Plain.name; exact rfl; exact rfl; decide) | apply Plain.none | apply Plain.bool | apply Plain.int | apply Plain.str); k_whole; (try dsimp only [List.cons_append, List.nil_append])) | walk1) <;> first | (with_reducible show wpAny _ _ (subscriptTail _ (PySem.Expr.Slice _ _ _ _) _ _) _ _ _) | (try dsimp only)) | (dsimp only; walk1) | (leave1; try dsimp only) | fail "no step"))
      rename Fr _ _ _ _ => F₆; rename News _ _ _ _ => N₆
      have z0 : SrcOk _ src := ⟨os4, N₆.get (.tail _ (.tail _ (.head _))), hso4⟩
      have z1 := ne_src (N₆.get (.head _)) rfl z0
      have z2 := ne_src (N₆.get (.tail _ (.head _))) rfl z0
      refine take_use F₆ X' T' N₆ (.tail _ (.tail _ (.head _))) hso4 (fun o' => .tail z1 (.tail z2 (.head (by k_all)))) (by ktr_room) (by ktr_room) (by decide) (by decide) ?_
      intro r7 t7 h7 tk7 o7 r0 r1 F₇ N₇ ho7
      refine hide (fun P9 toP9 => ?_)
      (try dsimp only at N₇)
      obtain ⟨c, hc, rfl⟩ := toNat2 r0 r1
      clear F₆ N₆
      (refine toP9 ?_; clear toP9 P9)
      (try dsimp only)
      (repeat' ((fail_if_success (with_reducible show wpAny _ _ (call (Value.ref 154) _) _ _ _)); (fail_if_success (with_reducible show wpAny _ _ (call (Value.ref 161) _) _ _ _)); (fail_if_success (with_reducible refine stop_at (by first | (constructor; done) | exact .call (by decide)) ?_)); first | (k_unfold; (try dsimp only)) | (k_end; wrow_close) | ((first | ((with_reducible show wpAny _ _ (call (Value.builtin "list.append") [Value.ref _, _]) _ _ _); refine append_K (by k_asm) (by k_asm) (by k_upd) ?_ (by first | size_fits | (simp [sizeLine]; done) | ktr_units); intro hzz9 Fzz9 Nzz9; (try k_sweep)) | ((with_reducible show wpAny _ _ (call (Value.ref 154) _) _ _ _); refine take_use (by k_asm) (by k_asm) (by k_asm) (by k_asm) (by k_mem) (by assumption) (by intro ozz9; k_upd) (by ktr_room) (by ktr_room) (by first | decide | ktr_units | assumption) (by first | decide | ktr_units | assumption) ?_; k_whole; intro rzz9 tzz9 hzz9 tkzz9 ozz9 hr0zz9 hr1zz9 Fzz9 Nzz9 hozz9; (try dsimp only at Nzz9); (try k_sweep)) | ((with_reducible show wpAny _ _ (spliced _) _ _ _); refine' args_plain ?qSS ?qFF ?qkk ?qPP ?_; (case qSS => rfl); (case qFF => k_asm); (case qkk => rfl); (case qPP => repeat' first | exact Plain.nil | (apply Plain.name; exact rfl; exact rfl; decide) | apply Plain.none | apply Plain.bool | apply Plain.int | apply Plain.str); k_whole; (try dsimp only [List.cons_append, List.nil_append])) | walk1) <;> first | (with_reducible show wpAny _ _ (subscriptTail _ (PySem.Expr.Slice _ _ _ _) _ _) _ _ _) | (try dsimp only)) | (dsimp only; walk1) | (leave1; try dsimp only) | fail "no step"))
      have q7 := k5 _ _ _ F₇ N₇ (fun p hp => by repeat (first | exact hp | refine List.Mem.tail _ ?_))
      refine tup_times F₇ (N₇.isTup (.head _)) hc ?_
      intro rr h8 kp8 F₈ hrr
      have q8 : ∀ b o, hh.get? b = some o → b ≠ L' → b ≠ src → h8.get? b = some o := fun b o e b1 b2 => kp8 b o (q7 b o e b1 (by simpa using b2))
      have in8 := (N₇.isTup (.tail _ (.head _))).keeps kp8
      have C8 := kp8 _ _ (N₇.get (.tail _ (.tail _ (.tail _ (.head _)))))
      have D8 := kp8 _ _ (N₇.get (.tail _ (.tail _ (.tail _ (.tail _ (.head _))))))
      have s8 := kp8 _ _ (N₇.get (.tail _ (.tail _ (.head _))))
      have f8 := full_snoc (kf5 _ q8) ⟨rr, _, rfl, hrr, pairsL_rep in8 c⟩ (by rw [List.length_replicate]; exact hc)
      have hk8 := fun b o e b1 b2 => q8 b o (hk' b o e b1 b2) b1 b2
      have hl8 : (ys ++ [Value.ref rr]).length = i' + 1 := by rw [List.length_append, hyl]; rfl
      refine ⟨h8, _, mC, rfl, F₈, nC.ns C8, D8, ki5 _ q8, hk8, ⟨o7, s8, ho7⟩, hl8, _, f8⟩
    case after3 =>
      intro Fa h5 tk5 fvs hyl5 F₅ hFa g5 nFL hF₀ hJ5
      refine hide (fun P9 toP9 => ?_)
      obtain ⟨hk5, ⟨o5, hos5, hso5⟩, hfl5, fs, hfs⟩ := hJ5
      have q05 : ∀ b o, h.get? b = some o → b ≠ L' → b ≠ src → h5.get? b = some o := fun b o e b1 b2 => hk5 b o (q3 b o e b1 (by simpa using b2)) b1 b2
      have C5 := hk5 _ _ C3.1 C3.2.1 (Ne.symm nsC)
      have nFs : Fa ≠ src := fun q => by have z := s3.1; rw [← q, hF₀] at z; cases z
      have K5 := y5.keep (fun b o e f nb => q05 b o e (fun z => nb (z ▸ .head _)) (fun z => nb (.tail _ (z ▸ .head _)))) (kt0 _ (fun b o e b1 b2 => q05 b o e b1 (by simpa using b2)))
      have hb5 := hk5 _ _ hbN.1 hbN.2.1 bs3; have hd5 := hk5 _ _ hdN.1 hdN.2.1 ds3
      obtain ⟨cs, ggs, Ks, hEnds, hRows, hGoals, hLens, lg, lf, ln, hfS, lB, lR, lG, lF⟩ := law_static (L := L') (body := B) (dx := B) (ob := oc) (od := oc) F₅ ⟨o5, hos5, hso5⟩ K5 y4 (by omega) (q05 _ _ y1 eB.1 n4) (q05 _ _ y2 eR.1 n5) (q05 _ _ y3 eG.1 n6) hFa eB.1 n4 eR.1 n5 eG.1 n6 nFL nFs hfs hfl5
      (refine toP9 ?_; clear toP9 P9)
      have hBs : BodyAt (hideAll h5 [L', src]) _ B := ⟨_, _, _, _, _, _, _, _, _, _, _, _, _, _, _, _, hid_get hb5 hbN.2.1 bs3, hid_get hd5 hdN.2.1 ds3⟩
      have S5 : (hideAll h5 [L', src]).StaysIn h5 := fun b o e => of_hideAll _ e
      have sL : ∀ b o, (hideAll h5 [L', src]).get? b = some o → b ≠ L' := fun b o e => (hid_of e).2.1
      have ss : ∀ b o, (hideAll h5 [L', src]).get? b = some o → b ≠ src := fun b o e => (hid_of e).2.2
      have N₅ := news_cons (p := (src, o5)) ⟨hos5, nsL, gsrc⟩ (news_cons (p := (L' + 1, oc)) ⟨C5, C3.2⟩ (News.nil : News g L' h5 []))
      have uB := fun _ : Unit => lB
      have uR := fun _ : Unit => lR
      have uG := fun _ : Unit => lG
      have uF := fun _ : Unit => lF
      clear lB lR lG lF
      generalize hideAll h5 [L', src] = hs at *
      clear q05 K5 hb5 hd5 hk5 q3 kt0 y5 y1 y2 y3 hfs hFa
      (try clear F₃); (try clear F₄); (try clear N₄); (try clear N3')
      (try dsimp only)
      (repeat' ((fail_if_success (with_reducible refine stop_at (by first | (constructor; done) | exact .call (by decide)) ?_)); first | (k_unfold; (try dsimp only)) | (k_end; wrow_close) | ((first | ((with_reducible show wpAny _ _ (call (Value.builtin "list.append") [Value.ref _, _]) _ _ _); refine append_K (by k_asm) (by k_asm) (by k_upd) ?_ (by first | size_fits | (simp [sizeLine]; done) | ktr_units); intro hzz9 Fzz9 Nzz9; (try k_sweep)) | ((with_reducible show wpAny _ _ (call (Value.ref 154) _) _ _ _); refine take_use (by k_asm) (by k_asm) (by k_asm) (by k_asm) (by k_mem) (by assumption) (by intro ozz9; k_upd) (by ktr_room) (by ktr_room) (by first | decide | ktr_units | assumption) (by first | decide | ktr_units | assumption) ?_; k_whole; intro rzz9 tzz9 hzz9 tkzz9 ozz9 hr0zz9 hr1zz9 Fzz9 Nzz9 hozz9; (try dsimp only at Nzz9); (try k_sweep)) | ((with_reducible show wpAny _ _ (spliced _) _ _ _); refine' args_plain ?qSS ?qFF ?qkk ?qPP ?_; (case qSS => rfl); (case qFF => k_asm); (case qkk => rfl); (case qPP => repeat' first | exact Plain.nil | (apply Plain.name; exact rfl; exact rfl; decide) | apply Plain.none | apply Plain.bool | apply Plain.int | apply Plain.str); k_whole; (try dsimp only [List.cons_append, List.nil_append])) | walk1) <;> first | (with_reducible show wpAny _ _ (subscriptTail _ (PySem.Expr.Slice _ _ _ _) _ _) _ _ _) | (try dsimp only)) | (dsimp only; walk1) | (leave1; try dsimp only) | fail "no step"))
      refine told_ok X' T' F₅.keep (by ktr_room) (by ktr_room) (hBs.mono S5) ((uB ()).at (S5 B)) ((uR ()).at (S5 R)) (Ks.mono S5) ?_
      intro h6 tk6 st6
      refine hide (fun P9 toP9 => ?_)
      obtain ⟨F₆, N₆⟩ := stays_back F₅ N₅ st6
      have S6 : hs.StaysIn h6 := fun b o e => st6 b o (S5 b o e)
      obtain ⟨D6, N6, -, hDD6⟩ := refresh F₆ News.nil
      have N6' := news_cons (N₆ _ (.head _)) (news_cons (N₆ _ (.tail _ (.head _))) N6)
      have k67 : ∀ h' m' news', Fr g L' h' m' → News g L' h' news' → (∀ p ∈ D6, p ∈ news') → hs.StaysIn h' := fun _ _ _ a b c => fun x o e => keepAll_of hDD6 a b c x o (S6 x o e) (sL x o e)
      clear hDD6 N6 F₅ N₅ N₆ S5 S6
      (refine toP9 ?_; clear toP9 P9)
      (try dsimp only)
      (repeat' ((fail_if_success (with_reducible refine stop_at (by first | (constructor; done) | exact .call (by decide)) ?_)); first | (k_unfold; (try dsimp only)) | (k_end; wrow_close) | ((first | ((with_reducible show wpAny _ _ (call (Value.builtin "list.append") [Value.ref _, _]) _ _ _); refine append_K (by k_asm) (by k_asm) (by k_upd) ?_ (by first | size_fits | (simp [sizeLine]; done) | ktr_units); intro hzz9 Fzz9 Nzz9; (try k_sweep)) | ((with_reducible show wpAny _ _ (call (Value.ref 154) _) _ _ _); refine take_use (by k_asm) (by k_asm) (by k_asm) (by k_asm) (by k_mem) (by assumption) (by intro ozz9; k_upd) (by ktr_room) (by ktr_room) (by first | decide | ktr_units | assumption) (by first | decide | ktr_units | assumption) ?_; k_whole; intro rzz9 tzz9 hzz9 tkzz9 ozz9 hr0zz9 hr1zz9 Fzz9 Nzz9 hozz9; (try dsimp only at Nzz9); (try k_sweep)) | ((with_reducible show wpAny _ _ (spliced _) _ _ _); refine' args_plain ?qSS ?qFF ?qkk ?qPP ?_; (case qSS => rfl); (case qFF => k_asm); (case qkk => rfl); (case qPP => repeat' first | exact Plain.nil | (apply Plain.name; exact rfl; exact rfl; decide) | apply Plain.none | apply Plain.bool | apply Plain.int | apply Plain.str); k_whole; (try dsimp only [List.cons_append, List.nil_append])) | walk1) <;> first | (with_reducible show wpAny _ _ (subscriptTail _ (PySem.Expr.Slice _ _ _ _) _ _) _ _ _) | (try dsimp only)) | (dsimp only; walk1) | (leave1; try dsimp only) | fail "no step"))
      rename Fr _ _ _ _ => F₇; rename News _ _ _ _ => N₇
      have S7 := k67 _ _ _ F₇ N₇ (fun p hp => .tail _ (.tail _ (.tail _ (.tail _ hp))))
      have hev7 : PairsAt _ (.ref _) [(8, 8)] := ⟨_, [_], rfl, N₇.isTup (.head _), .cons (N₇.isTup (.tail _ (.head _))) .nil⟩
      refine facts_before_ok X' T' F₇.keep (by ktr_room) (by ktr_room) (hBs.mono S7) ((uB ()).at (S7 B)) (hEnds.mono S7) ((uF ()).at (S7 Fa)) (hfS.mono S7) lf hev7 (by decide) ?_
      intro r₁ h8 tk8 fr8 st8 hd8
      refine hide (fun P9 toP9 => ?_)
      obtain ⟨oL, hoL⟩ := ns_some F₇.ns
      have nr1 := ne_of_none hoL fr8
      obtain ⟨F₈, N₈⟩ := stays_back F₇ N₇ st8
      obtain ⟨D8, N8, -, hDD8⟩ := refresh F₈ News.nil
      have N8' := news_cons (N₈ _ (.tail _ (.tail _ (.head _)))) (news_cons (N₈ _ (.tail _ (.tail _ (.tail _ (.head _))))) N8)
      have k89 : ∀ h' m' news', Fr g L' h' m' → News g L' h' news' → (∀ p ∈ D8, p ∈ news') → ∀ b o, h8.get? b = some o → b ≠ L' → h'.get? b = some o := fun _ _ _ a b c => keepAll_of hDD8 a b c
      have kd8 := fun (h' : Heap) (q : ∀ b o, h8.get? b = some o → b ≠ L' → h'.get? b = some o) => dat_keeps (h' := h') F₈ nr1 (fun x o e hx _ => q x o e hx) hd8
      have S8 : hs.StaysIn h8 := fun b o e => st8 b o (S7 b o e)
      clear hDD8 N8 N₈ F₇ N₇ S7 hoL hev7
      (refine toP9 ?_; clear toP9 P9)
      (try dsimp only)
      (repeat' ((fail_if_success (with_reducible refine stop_at (by first | (constructor; done) | exact .call (by decide)) ?_)); first | (k_unfold; (try dsimp only)) | (k_end; wrow_close) | ((first | ((with_reducible show wpAny _ _ (call (Value.builtin "list.append") [Value.ref _, _]) _ _ _); refine append_K (by k_asm) (by k_asm) (by k_upd) ?_ (by first | size_fits | (simp [sizeLine]; done) | ktr_units); intro hzz9 Fzz9 Nzz9; (try k_sweep)) | ((with_reducible show wpAny _ _ (call (Value.ref 154) _) _ _ _); refine take_use (by k_asm) (by k_asm) (by k_asm) (by k_asm) (by k_mem) (by assumption) (by intro ozz9; k_upd) (by ktr_room) (by ktr_room) (by first | decide | ktr_units | assumption) (by first | decide | ktr_units | assumption) ?_; k_whole; intro rzz9 tzz9 hzz9 tkzz9 ozz9 hr0zz9 hr1zz9 Fzz9 Nzz9 hozz9; (try dsimp only at Nzz9); (try k_sweep)) | ((with_reducible show wpAny _ _ (spliced _) _ _ _); refine' args_plain ?qSS ?qFF ?qkk ?qPP ?_; (case qSS => rfl); (case qFF => k_asm); (case qkk => rfl); (case qPP => repeat' first | exact Plain.nil | (apply Plain.name; exact rfl; exact rfl; decide) | apply Plain.none | apply Plain.bool | apply Plain.int | apply Plain.str); k_whole; (try dsimp only [List.cons_append, List.nil_append])) | walk1) <;> first | (with_reducible show wpAny _ _ (subscriptTail _ (PySem.Expr.Slice _ _ _ _) _ _) _ _ _) | (try dsimp only)) | (dsimp only; walk1) | (leave1; try dsimp only) | fail "no step"))
      rename Fr _ _ _ _ => F₉; rename News _ _ _ _ => N₉
      have q9 := k89 _ _ _ F₉ N₉ (fun p hp => .tail _ (.tail _ (.tail _ (.tail _ hp))))
      have S9 : hs.StaysIn _ := fun b o e => q9 b o (S8 b o e) (sL b o e)
      have hev9 : PairsAt _ (.ref _) [(8, 8)] := ⟨_, [_], rfl, N₉.isTup (.head _), .cons (N₉.isTup (.tail _ (.head _))) .nil⟩
      have hd9 := kd8 _ q9
      have kd9 := fun (h' : Heap) (q : Heap.StaysIn _ h') => dat_keeps (h' := h') F₉ nr1 (fun x o e _ _ => q x o e) hd9
      refine before_ok X' T' F₉.keep (by ktr_room) (by ktr_room) ((uR ()).at (S9 R)) (hRows.mono S9) ((uG ()).at (S9 G)) (hGoals.mono S9) lg ((uF ()).at (S9 Fa)) (hfS.mono S9) lf hev9 (by decide) ?_
      intro r₂ h10 tk10 fr10 st10 hd10
      refine hide (fun P9 toP9 => ?_)
      obtain ⟨F₁₀, N₁₀⟩ := stays_back F₉ N₉ st10
      have hd10' := kd9 _ st10
      have S10 : hs.StaysIn h10 := fun b o e => st10 b o (S9 b o e)
      have N10' : News g L' h10 _ := news_cons (N₁₀ _ (.tail _ (.tail _ (.head _)))) (news_cons (N₁₀ _ (.tail _ (.tail _ (.tail _ (.head _))))) News.nil)
      clear N₁₀ F₉ N₉ S9 q9 k89 kd8 kd9 hev9
      (refine toP9 ?_; clear toP9 P9)
      (try dsimp only)
      (repeat' ((fail_if_success (with_reducible refine stop_at (by first | (constructor; done) | exact .call (by decide)) ?_)); first | (k_unfold; (try dsimp only)) | (k_end; wrow_close) | ((first | ((with_reducible show wpAny _ _ (call (Value.builtin "list.append") [Value.ref _, _]) _ _ _); refine append_K (by k_asm) (by k_asm) (by k_upd) ?_ (by first | size_fits | (simp [sizeLine]; done) | ktr_units); intro hzz9 Fzz9 Nzz9; (try k_sweep)) | ((with_reducible show wpAny _ _ (call (Value.ref 154) _) _ _ _); refine take_use (by k_asm) (by k_asm) (by k_asm) (by k_asm) (by k_mem) (by assumption) (by intro ozz9; k_upd) (by ktr_room) (by ktr_room) (by first | decide | ktr_units | assumption) (by first | decide | ktr_units | assumption) ?_; k_whole; intro rzz9 tzz9 hzz9 tkzz9 ozz9 hr0zz9 hr1zz9 Fzz9 Nzz9 hozz9; (try dsimp only at Nzz9); (try k_sweep)) | ((with_reducible show wpAny _ _ (spliced _) _ _ _); refine' args_plain ?qSS ?qFF ?qkk ?qPP ?_; (case qSS => rfl); (case qFF => k_asm); (case qkk => rfl); (case qPP => repeat' first | exact Plain.nil | (apply Plain.name; exact rfl; exact rfl; decide) | apply Plain.none | apply Plain.bool | apply Plain.int | apply Plain.str); k_whole; (try dsimp only [List.cons_append, List.nil_append])) | walk1) <;> first | (with_reducible show wpAny _ _ (subscriptTail _ (PySem.Expr.Slice _ _ _ _) _ _) _ _ _) | (try dsimp only)) | (dsimp only; walk1) | (leave1; try dsimp only) | fail "no step"))
      refine dict_ne (by ktr_room) hd10' hd10 (bf_bb_len _ _ _ _ _) (fun x hx => bf_bb_mem hx) ?_
      clear hd10 hd10'
      (try dsimp only)
      (repeat' ((fail_if_success (with_reducible refine stop_at (by first | (constructor; done) | exact .call (by decide)) ?_)); first | (k_unfold; (try dsimp only)) | (k_end; wrow_close) | ((first | ((with_reducible show wpAny _ _ (call (Value.builtin "list.append") [Value.ref _, _]) _ _ _); refine append_K (by k_asm) (by k_asm) (by k_upd) ?_ (by first | size_fits | (simp [sizeLine]; done) | ktr_units); intro hzz9 Fzz9 Nzz9; (try k_sweep)) | ((with_reducible show wpAny _ _ (call (Value.ref 154) _) _ _ _); refine take_use (by k_asm) (by k_asm) (by k_asm) (by k_asm) (by k_mem) (by assumption) (by intro ozz9; k_upd) (by ktr_room) (by ktr_room) (by first | decide | ktr_units | assumption) (by first | decide | ktr_units | assumption) ?_; k_whole; intro rzz9 tzz9 hzz9 tkzz9 ozz9 hr0zz9 hr1zz9 Fzz9 Nzz9 hozz9; (try dsimp only at Nzz9); (try k_sweep)) | ((with_reducible show wpAny _ _ (spliced _) _ _ _); refine' args_plain ?qSS ?qFF ?qkk ?qPP ?_; (case qSS => rfl); (case qFF => k_asm); (case qkk => rfl); (case qPP => repeat' first | exact Plain.nil | (apply Plain.name; exact rfl; exact rfl; decide) | apply Plain.none | apply Plain.bool | apply Plain.int | apply Plain.str); k_whole; (try dsimp only [List.cons_append, List.nil_append])) | walk1) <;> first | (with_reducible show wpAny _ _ (subscriptTail _ (PySem.Expr.Slice _ _ _ _) _ _) _ _ _) | (try dsimp only)) | (dsimp only; walk1) | (leave1; try dsimp only) | fail "no step"))
      rename Fr _ _ _ _ => F₁₁; rename News _ _ _ _ => N₁₁
      have s11 := N₁₁ _ (.head _); have C11 := N₁₁ _ (.tail _ (.head _))
      have hs11 : SrcOk h10 src := ⟨o5, s11.1, hso5⟩
      refine Assign_Comp_E F₁₁ (fun H i' ys hh => (∀ b o, H.get? b = some o → b ≠ L' → b ≠ src → hh.get? b = some o) ∧ SrcOk hh src ∧ ys.length = i' ∧ ∃ os, FactsAt hh ys os) ?stab4 (by with_unfolding_all rfl) (by with_unfolding_all rfl) (by decide) (by rfl) (by decide) rfl rfl ?_
      case stab4 => exact fun i' ys zs h h' C D mC F hC hD hC₀ hD₀ hJ kc => ⟨keepC_oldS hC₀ hD₀ hJ.1 kc, keepC_src s11.1 hC₀ hD₀ nsL kc hJ.2.1, hJ.2.2.1, let ⟨os, x⟩ := hJ.2.2.2; ⟨os, facts_keepC F hC hD kc x⟩⟩
      (repeat' ((fail_if_success (with_reducible refine stop_at (by first | (constructor; done) | exact .call (by decide)) ?_)); first | (k_unfold; (try dsimp only)) | (k_end; wrow_close) | ((first | ((with_reducible show wpAny _ _ (call (Value.builtin "list.append") [Value.ref _, _]) _ _ _); refine append_K (by k_asm) (by k_asm) (by k_upd) ?_ (by first | size_fits | (simp [sizeLine]; done) | ktr_units); intro hzz9 Fzz9 Nzz9; (try k_sweep)) | ((with_reducible show wpAny _ _ (call (Value.ref 154) _) _ _ _); refine take_use (by k_asm) (by k_asm) (by k_asm) (by k_asm) (by k_mem) (by assumption) (by intro ozz9; k_upd) (by ktr_room) (by ktr_room) (by first | decide | ktr_units | assumption) (by first | decide | ktr_units | assumption) ?_; k_whole; intro rzz9 tzz9 hzz9 tkzz9 ozz9 hr0zz9 hr1zz9 Fzz9 Nzz9 hozz9; (try dsimp only at Nzz9); (try k_sweep)) | ((with_reducible show wpAny _ _ (spliced _) _ _ _); refine' args_plain ?qSS ?qFF ?qkk ?qPP ?_; (case qSS => rfl); (case qFF => k_asm); (case qkk => rfl); (case qPP => repeat' first | exact Plain.nil | (apply Plain.name; exact rfl; exact rfl; decide) | apply Plain.none | apply Plain.bool | apply Plain.int | apply Plain.str); k_whole; (try dsimp only [List.cons_append, List.nil_append])) | walk1) <;> first | (with_reducible show wpAny _ _ (subscriptTail _ (PySem.Expr.Slice _ _ _ _) _ _) _ _ _) | (try dsimp only)) | (dsimp only; walk1) | (leave1; try dsimp only) | fail "no step"))
      refine wpAny_pyIter_list ((uF ()).at (S10 Fa)) ?_
      refine ⟨fvs.length, compE_list rfl F₁₁ (fun b o e hb q => by rw [e] at q; cases q) rfl rfl (by unfold sizeLine; omega) ((uF ()).at (S10 Fa)) (fun h' kh => ⟨fun b o e _ _ => kh _ _ e, srcOk_keep hs11 (fun o e _ => kh _ _ e), rfl, [], facts_nil⟩) (fun i ys hh hJ => (uF ()).at fun o e => hJ.1 Fa o (S10 Fa o e) (sL Fa o e) (ss Fa o e)) ?el4, ?after4⟩
      case el4 =>
        intro C D' i' hh tkh ys mC R' hi' hy ⟨v, hv, hm1⟩ F₅ hC hD n1' n2' n3' n4' n5' hC₀ hD₀ hJ'
        refine hide (fun P9 toP9 => ?_)
        obtain ⟨ps, ⟨ft, fw, rfl, hft, hfw⟩, hfps⟩ := hfS.2.2 i' v hv
        have hp2 : ps.length ≤ 2 := hfS.2.1 _ (List.mem_of_getElem? hfps)
        obtain ⟨oC, hoC, nC⟩ := LCg.ns_obj hC
        obtain ⟨hk', ⟨os4, hos4, hso4⟩, hyl, os, hfs⟩ := hJ'
        have hc4 := hk' _ _ C11.1 C11.2.1 (Ne.symm nsC)
        have nsC' : src ≠ C := fun q => by have z := s11.1; rw [q, hC₀] at z; cases z
        have nsD' : src ≠ D' := fun q => by have z := s11.1; rw [q, hD₀] at z; cases z
        have nCL : C ≠ L' + 1 := fun q => by have z := C11.1; rw [← q, hC₀] at z; cases z
        have S12 : hs.StaysIn hh := fun b o e => hk' b o (S10 b o e) (sL b o e) (ss b o e)
        obtain ⟨D5, N5, hDn5, hDD5⟩ := refresh F₅ (news_cons (p := (src, os4)) ⟨hos4, nsL, gsrc⟩ News.nil)
        have d5 := off_ms hDn5 (a := src) (.head _)
        have N₅ := news_cons (p := (src, os4)) ⟨hos4, nsL, gsrc⟩ (news_cons (p := (C, oC)) ⟨hoC, Ne.symm n2', n4'⟩ (news_cons (p := (D', LCg.lst ys)) ⟨hD, Ne.symm n3', n5'⟩ (news_cons (p := (L' + 1, oc)) ⟨hc4, C11.2⟩ N5)))
        have k5 : ∀ h' m' news', Fr g L' h' m' → News g L' h' news' → (∀ p ∈ D5, p ∈ news') → ∀ b o, hh.get? b = some o → b ≠ L' → b ∉ [src] → h'.get? b = some o := fun _ _ _ a b c => keepMs_of hDD5 a b c
        have kf5 := fun (h' : Heap) (q : ∀ b o, hh.get? b = some o → b ≠ L' → b ≠ src → h'.get? b = some o) => facts_but (h' := h') F₅ ⟨os4, hos4, hso4⟩ q hfs
        have nf5 := ns_fields F₅
        have ki5 : ∀ h' : Heap, (∀ b o, hh.get? b = some o → b ≠ L' → b ≠ src → h'.get? b = some o) → KeepIt hh h' := fun h' q b o e f => q b o e (fun z => by rw [nf5 o (z ▸ e)] at f; cases f) (fun z => by subst z; rw [hos4] at e; cases e; obtain ⟨p, q, t1, t2, n, rfl⟩ := hso4; cases f)
        clear hDD5 N5 hDn5; (try clear F₁₁); (try clear N₁₁)
        (refine toP9 ?_; clear toP9 P9)
        (try dsimp only)
        (repeat' ((fail_if_success (with_reducible show wpAny _ _ (call (Value.ref 154) _) _ _ _)); (fail_if_success (with_reducible show wpAny _ _ (call (Value.ref 161) _) _ _ _)); (fail_if_success (with_reducible refine stop_at (by first | (constructor; done) | exact .call (by decide)) ?_)); first | (k_unfold; (try dsimp only)) | (k_end; wrow_close) | ((first | ((with_reducible show wpAny _ _ (call (Value.builtin "list.append") [Value.ref _, _]) _ _ _); refine append_K (by k_asm) (by k_asm) (by k_upd) ?_ (by first | size_fits | (simp [sizeLine]; done) | ktr_units); intro hzz9 Fzz9 Nzz9; (try k_sweep)) | ((with_reducible show wpAny _ _ (call (Value.ref 154) _) _ _ _); refine take_use (by k_asm) (by k_asm) (by k_asm) (by k_asm) (by k_mem) (by assumption) (by intro ozz9; k_upd) (by ktr_room) (by ktr_room) (by first | decide | ktr_units | assumption) (by first | decide | ktr_units | assumption) ?_; k_whole; intro rzz9 tzz9 hzz9 tkzz9 ozz9 hr0zz9 hr1zz9 Fzz9 Nzz9 hozz9; (try dsimp only at Nzz9); (try k_sweep)) | ((with_reducible show wpAny _ _ (spliced _) _ _ _); refine' args_plain ?qSS ?qFF ?qkk ?qPP ?_; (case qSS => rfl); (case qFF => k_asm); (case qkk => rfl); (case qPP => repeat' first | exact Plain.nil | (apply Plain.name; exact rfl; exact rfl; decide) | apply Plain.none | apply Plain.bool | apply Plain.int | apply Plain.str); k_whole; (try dsimp only [List.cons_append, List.nil_append])) | walk1) <;> first | (with_reducible show wpAny _ _ (subscriptTail _ (PySem.Expr.Slice _ _ _ _) _ _) _ _ _) | (try dsimp only)) | (dsimp only; walk1) | (leave1; try dsimp only) | fail "no step"))
        rename Fr _ _ _ _ => F₆; rename News _ _ _ _ => N₆
        refine one_use F₆ X' T' N₆ (.tail _ (.head _)) hso4 (N₆.isList (.head _)) (by k_ne) (fun o' => .tail (by k_ne) (.head (by k_all))) (by ktr_room) (by ktr_room) (by simp) (by simp) ?_
        intro v7 hv7 h7 tk7 o7 F₇ N₇ ho7
        have q7 := k5 _ _ _ F₇ N₇ (fun p hp => by repeat (first | exact hp | refine List.Mem.tail _ ?_))
        have q8 : ∀ b o, hh.get? b = some o → b ≠ L' → b ≠ src → h7.get? b = some o := fun b o e b1 b2 => q7 b o e b1 (by simpa using b2)
        have S7 : hs.StaysIn h7 := fun b o e => q8 b o (S12 b o e) (sL b o e) (ss b o e)
        have hfv : PairsAt h7 (.ref ft) ps := ⟨ft, fw, rfl, hft.keeps S7, hfw.mono S7⟩
        refine hide (fun P9 toP9 => ?_)
        obtain ⟨f, hf⟩ : ∃ f, (v7 = .none ∧ f = none) ∨ ∃ ps, PairsAt h7 v7 ps ∧ f = some ps ∧ ps.length ≤ 2 := by
          simp only [List.mem_cons, List.not_mem_nil, or_false] at hv7
          rcases hv7 with rfl | rfl | rfl
          · exact ⟨_, .inr ⟨ps, hfv, rfl, hp2⟩⟩
          · exact ⟨_, .inr ⟨ps, hfv, rfl, hp2⟩⟩
          · exact ⟨_, .inl ⟨rfl, rfl⟩⟩
        (refine toP9 ?_; clear toP9 P9)
        have C7 := N₇.get (.tail _ (.tail _ (.head _)))
        have D7 := N₇.get (.tail _ (.tail _ (.tail _ (.head _))))
        have s7 := N₇.get (.tail _ (.head _))
        have f7 := facts_snoc (kf5 _ q8) hf
        have hk8 := fun b o e b1 b2 => q8 b o (hk' b o e b1 b2) b1 b2
        have hl8 : (ys ++ [v7]).length = i' + 1 := by rw [List.length_append, hyl]; rfl
        refine ⟨h7, _, mC, rfl, F₇, nC.ns C7, D7, ki5 _ q8, hk8, ⟨o7, s7, ho7⟩, hl8, _, f7⟩
      case after4 =>
        intro Sa h13 tk13 avs hylA F₁₃ hSa g13 nSaL hSa₀ hJ13
        refine hide (fun P9 toP9 => ?_)
        obtain ⟨hk', ⟨o13, hos13, hso13⟩, hal, os, hos⟩ := hJ13
        have S13 : hs.StaysIn h13 := fun b o e => hk' b o (S10 b o e) (sL b o e) (ss b o e)
        have N₁₃ : News g L' h13 [] := News.nil
        have hlen : cs.length = os.length := by have := hos.1; omega
        (try clear F₁₁); (try clear N₁₁)
        (refine toP9 ?_; clear toP9 P9)
        (try dsimp only)
        (repeat' ((fail_if_success (with_reducible refine stop_at (by first | (constructor; done) | exact .call (by decide)) ?_)); first | (k_unfold; (try dsimp only)) | (k_end; wrow_close) | ((first | ((with_reducible show wpAny _ _ (call (Value.builtin "list.append") [Value.ref _, _]) _ _ _); refine append_K (by k_asm) (by k_asm) (by k_upd) ?_ (by first | size_fits | (simp [sizeLine]; done) | ktr_units); intro hzz9 Fzz9 Nzz9; (try k_sweep)) | ((with_reducible show wpAny _ _ (call (Value.ref 154) _) _ _ _); refine take_use (by k_asm) (by k_asm) (by k_asm) (by k_asm) (by k_mem) (by assumption) (by intro ozz9; k_upd) (by ktr_room) (by ktr_room) (by first | decide | ktr_units | assumption) (by first | decide | ktr_units | assumption) ?_; k_whole; intro rzz9 tzz9 hzz9 tkzz9 ozz9 hr0zz9 hr1zz9 Fzz9 Nzz9 hozz9; (try dsimp only at Nzz9); (try k_sweep)) | ((with_reducible show wpAny _ _ (spliced _) _ _ _); refine' args_plain ?qSS ?qFF ?qkk ?qPP ?_; (case qSS => rfl); (case qFF => k_asm); (case qkk => rfl); (case qPP => repeat' first | exact Plain.nil | (apply Plain.name; exact rfl; exact rfl; decide) | apply Plain.none | apply Plain.bool | apply Plain.int | apply Plain.str); k_whole; (try dsimp only [List.cons_append, List.nil_append])) | walk1) <;> first | (with_reducible show wpAny _ _ (subscriptTail _ (PySem.Expr.Slice _ _ _ _) _ _) _ _ _) | (try dsimp only)) | (dsimp only; walk1) | (leave1; try dsimp only) | fail "no step"))
        refine all_facts_ok X' T' F₁₃.keep (by ktr_room) (by ktr_room) (hBs.mono S13) ((uB ()).at (S13 B)) (hLens.mono S13) (isl hSa) hos hlen ?_
        intro r₃ h14 tk14 fr14 st14 hd14
        refine hide (fun P9 toP9 => ?_)
        obtain ⟨oL, hoL⟩ := ns_some F₁₃.ns
        have nr3 := ne_of_none hoL fr14
        obtain ⟨F₁₄, N₁₄⟩ := stays_back F₁₃ N₁₃ st14
        have S14 : hs.StaysIn h14 := fun b o e => st14 b o (S13 b o e)
        have kd14 := fun (h' : Heap) (q : h14.StaysIn h') => dat_keeps (h' := h') F₁₄ nr3 (fun x o e _ _ => q x o e) hd14
        (try clear F₁₃); (try clear N₁₃)
        (refine toP9 ?_; clear toP9 P9)
        (try dsimp only)
        (repeat' ((fail_if_success (with_reducible refine stop_at (by first | (constructor; done) | exact .call (by decide)) ?_)); first | (k_unfold; (try dsimp only)) | (k_end; wrow_close) | ((first | ((with_reducible show wpAny _ _ (call (Value.builtin "list.append") [Value.ref _, _]) _ _ _); refine append_K (by k_asm) (by k_asm) (by k_upd) ?_ (by first | size_fits | (simp [sizeLine]; done) | ktr_units); intro hzz9 Fzz9 Nzz9; (try k_sweep)) | ((with_reducible show wpAny _ _ (call (Value.ref 154) _) _ _ _); refine take_use (by k_asm) (by k_asm) (by k_asm) (by k_asm) (by k_mem) (by assumption) (by intro ozz9; k_upd) (by ktr_room) (by ktr_room) (by first | decide | ktr_units | assumption) (by first | decide | ktr_units | assumption) ?_; k_whole; intro rzz9 tzz9 hzz9 tkzz9 ozz9 hr0zz9 hr1zz9 Fzz9 Nzz9 hozz9; (try dsimp only at Nzz9); (try k_sweep)) | ((with_reducible show wpAny _ _ (spliced _) _ _ _); refine' args_plain ?qSS ?qFF ?qkk ?qPP ?_; (case qSS => rfl); (case qFF => k_asm); (case qkk => rfl); (case qPP => repeat' first | exact Plain.nil | (apply Plain.name; exact rfl; exact rfl; decide) | apply Plain.none | apply Plain.bool | apply Plain.int | apply Plain.str); k_whole; (try dsimp only [List.cons_append, List.nil_append])) | walk1) <;> first | (with_reducible show wpAny _ _ (subscriptTail _ (PySem.Expr.Slice _ _ _ _) _ _) _ _ _) | (try dsimp only)) | (dsimp only; walk1) | (leave1; try dsimp only) | fail "no step"))
        refine ahead_ok X' T' F₁₄.keep (by ktr_room) (by ktr_room) ((uR ()).at (S14 R)) (hRows.mono S14) ((isl hSa).at (st14 Sa)) (hos.mono st14) hlen ?_
        intro r₄ h15 tk15 fr15 st15 hd15
        refine hide (fun P9 toP9 => ?_)
        have hd14' := kd14 _ st15
        obtain ⟨F₁₅, N₁₅⟩ := stays_back F₁₄ N₁₄ st15
        (try clear F₁₄); (try clear N₁₄)
        (refine toP9 ?_; clear toP9 P9)
        (try dsimp only)
        (repeat' ((fail_if_success (with_reducible refine stop_at (by first | (constructor; done) | exact .call (by decide)) ?_)); first | (k_unfold; (try dsimp only)) | (k_end; wrow_close) | ((first | ((with_reducible show wpAny _ _ (call (Value.builtin "list.append") [Value.ref _, _]) _ _ _); refine append_K (by k_asm) (by k_asm) (by k_upd) ?_ (by first | size_fits | (simp [sizeLine]; done) | ktr_units); intro hzz9 Fzz9 Nzz9; (try k_sweep)) | ((with_reducible show wpAny _ _ (call (Value.ref 154) _) _ _ _); refine take_use (by k_asm) (by k_asm) (by k_asm) (by k_asm) (by k_mem) (by assumption) (by intro ozz9; k_upd) (by ktr_room) (by ktr_room) (by first | decide | ktr_units | assumption) (by first | decide | ktr_units | assumption) ?_; k_whole; intro rzz9 tzz9 hzz9 tkzz9 ozz9 hr0zz9 hr1zz9 Fzz9 Nzz9 hozz9; (try dsimp only at Nzz9); (try k_sweep)) | ((with_reducible show wpAny _ _ (spliced _) _ _ _); refine' args_plain ?qSS ?qFF ?qkk ?qPP ?_; (case qSS => rfl); (case qFF => k_asm); (case qkk => rfl); (case qPP => repeat' first | exact Plain.nil | (apply Plain.name; exact rfl; exact rfl; decide) | apply Plain.none | apply Plain.bool | apply Plain.int | apply Plain.str); k_whole; (try dsimp only [List.cons_append, List.nil_append])) | walk1) <;> first | (with_reducible show wpAny _ _ (subscriptTail _ (PySem.Expr.Slice _ _ _ _) _ _) _ _ _) | (try dsimp only)) | (dsimp only; walk1) | (leave1; try dsimp only) | fail "no step"))
        refine dict_eq (by ktr_room) hd14' hd15 rfl (fun _ q => q) ?_
        (try dsimp only)
        (repeat' ((fail_if_success (with_reducible refine stop_at (by first | (constructor; done) | exact .call (by decide)) ?_)); first | (k_unfold; (try dsimp only)) | (k_end; wrow_close) | ((first | ((with_reducible show wpAny _ _ (call (Value.builtin "list.append") [Value.ref _, _]) _ _ _); refine append_K (by k_asm) (by k_asm) (by k_upd) ?_ (by first | size_fits | (simp [sizeLine]; done) | ktr_units); intro hzz9 Fzz9 Nzz9; (try k_sweep)) | ((with_reducible show wpAny _ _ (call (Value.ref 154) _) _ _ _); refine take_use (by k_asm) (by k_asm) (by k_asm) (by k_asm) (by k_mem) (by assumption) (by intro ozz9; k_upd) (by ktr_room) (by ktr_room) (by first | decide | ktr_units | assumption) (by first | decide | ktr_units | assumption) ?_; k_whole; intro rzz9 tzz9 hzz9 tkzz9 ozz9 hr0zz9 hr1zz9 Fzz9 Nzz9 hozz9; (try dsimp only at Nzz9); (try k_sweep)) | ((with_reducible show wpAny _ _ (spliced _) _ _ _); refine' args_plain ?qSS ?qFF ?qkk ?qPP ?_; (case qSS => rfl); (case qFF => k_asm); (case qkk => rfl); (case qPP => repeat' first | exact Plain.nil | (apply Plain.name; exact rfl; exact rfl; decide) | apply Plain.none | apply Plain.bool | apply Plain.int | apply Plain.str); k_whole; (try dsimp only [List.cons_append, List.nil_append])) | walk1) <;> first | (with_reducible show wpAny _ _ (subscriptTail _ (PySem.Expr.Slice _ _ _ _) _ _) _ _ _) | (try dsimp only)) | (dsimp only; walk1) | (leave1; try dsimp only) | fail "no step"))
        (try dsimp only)
        rename Fr _ _ _ _ => F
        exact hQ _ _ (fun b o e => F.keep b o (k b o e))
  case step =>
    intro i t' m₁ h tk hi hJ F₁
    refine hide (fun P9 toP9 => ?_)
    rw [show (0 + (i : Int) * 1) = (i : Int) by omega] at F₁
    rw [AgreeOff.form hJ.1] at F₁
    obtain ⟨-, x1, ⟨o1, x2, ho1⟩, bvs, rvs, gvs, nb, nr, ng, y1, y2, y3, y4, y5⟩ := hJ
    have Ms : News g L' h [(src, o1), (B, listOf (List.toArray bvs) nb), (R, listOf (List.toArray rvs) nr), (G, listOf (List.toArray gvs) ng)] := news_cons ⟨x2, nsL, gsrc⟩ (news_cons ⟨y1, eB⟩ (news_cons ⟨y2, eR⟩ (news_cons ⟨y3, eG⟩ News.nil)))
    obtain ⟨D, N, hDn, hDD⟩ := refresh F₁ Ms
    have d1 := off_ms hDn (a := src) (.head _); have d2 := off_ms hDn (a := B) (.tail _ (.head _)); have d3 := off_ms hDn (a := R) (.tail _ (.tail _ (.head _))); have d4 := off_ms hDn (a := G) (.tail _ (.tail _ (.tail _ (.head _))))
    have N' : News g L' h ((src, o1) :: (B, listOf (List.toArray bvs) nb) :: (R, listOf (List.toArray rvs) nr) :: (G, listOf (List.toArray gvs) ng) :: (L' + 1, oc) :: D) := news_cons ⟨x2, nsL, gsrc⟩ (news_cons ⟨y1, eB⟩ (news_cons ⟨y2, eR⟩ (news_cons ⟨y3, eG⟩ (news_cons ⟨x1, eC⟩ N))))
    have kk : ∀ h' m' news', Fr g L' h' m' → News g L' h' news' → (∀ p ∈ D, p ∈ news') → ∀ b o, h.get? b = some o → b ≠ L' → b ∉ [src, B, R, G] → h'.get? b = some o := fun _ _ _ a b c => keepMs_of hDD a b c
    have nf := ns_fields F₁
    have nf' : ∀ o, h.get? L' = some o → isFields o = false := nf
    have ki0 := fun (h' : Heap) (q : ∀ b o, h.get? b = some o → b ≠ L' → b ∉ [src, B, R, G] → h'.get? b = some o) => keepIt_ms (h' := h') (L := L') nf' q x2 ho1 y1 y2 y3
    have kt0 := fun (h' : Heap) (q : ∀ b o, h.get? b = some o → b ≠ L' → b ∉ [src, B, R, G] → h'.get? b = some o) => keepTup_ms (h' := h') F₁ q (bad_no_tup x2 ho1 y1 y2 y3)
    clear hDD Ms N; (try clear F₉); (try clear N₉); (try clear F₁₀); (try clear N₁₀); (try clear hR)
    (refine toP9 ?_; clear toP9 P9)
    (try dsimp only)
    (repeat' ((fail_if_success (with_reducible refine stop_at (by first | (constructor; done) | exact .call (by decide)) ?_)); first | (k_unfold; (try dsimp only)) | (k_end; wrow_close) | ((first | ((with_reducible show wpAny _ _ (call (Value.builtin "list.append") [Value.ref _, _]) _ _ _); refine append_K (by k_asm) (by k_asm) (by k_upd) ?_ (by first | size_fits | (simp [sizeLine]; done) | ktr_units); intro hzz9 Fzz9 Nzz9; (try k_sweep)) | ((with_reducible show wpAny _ _ (call (Value.ref 154) _) _ _ _); refine take_use (by k_asm) (by k_asm) (by k_asm) (by k_asm) (by k_mem) (by assumption) (by intro ozz9; k_upd) (by ktr_room) (by ktr_room) (by first | decide | ktr_units | assumption) (by first | decide | ktr_units | assumption) ?_; k_whole; intro rzz9 tzz9 hzz9 tkzz9 ozz9 hr0zz9 hr1zz9 Fzz9 Nzz9 hozz9; (try dsimp only at Nzz9); (try k_sweep)) | ((with_reducible show wpAny _ _ (spliced _) _ _ _); refine' args_plain ?qSS ?qFF ?qkk ?qPP ?_; (case qSS => rfl); (case qFF => k_asm); (case qkk => rfl); (case qPP => repeat' first | exact Plain.nil | (apply Plain.name; exact rfl; exact rfl; decide) | apply Plain.none | apply Plain.bool | apply Plain.int | apply Plain.str); k_whole; (try dsimp only [List.cons_append, List.nil_append])) | walk1) <;> first | (with_reducible show wpAny _ _ (subscriptTail _ (PySem.Expr.Slice _ _ _ _) _ _) _ _ _) | (try dsimp only)) | (dsimp only; walk1) | (leave1; try dsimp only) | fail "no step"))
    rename Fr _ _ _ _ => F₂; rename News _ _ _ _ => N₂
    have q2 := kk _ _ _ F₂ N₂ (fun p hp => .tail _ (.tail _ (.tail _ (.tail _ (.tail _ hp)))))
    have s2 := N₂ _ (.head _); have B2 := N₂ _ (.tail _ (.head _)); have R2 := N₂ _ (.tail _ (.tail _ (.head _))); have G2 := N₂ _ (.tail _ (.tail _ (.tail _ (.head _)))); have C2 := N₂ _ (.tail _ (.tail _ (.tail _ (.tail _ (.head _)))))
    refine hide (fun P9 toP9 => ?_)
    obtain ⟨D2, N2, hDn2, hDD2⟩ := refresh F₂ (news_cons s2 News.nil)
    (refine toP9 ?_; clear toP9 P9)
    have d1' := off_ms hDn2 (a := src) (.head _)
    have N2' := news_cons s2 (news_cons C2 N2)
    have k23 : ∀ h' m' news', Fr g L' h' m' → News g L' h' news' → (∀ p ∈ D2, p ∈ news') → ∀ b o, Heap.get? _ b = some o → b ≠ L' → b ∉ [src] → h'.get? b = some o := fun _ _ _ a b c => keepMs_of hDD2 a b c
    (try clear hDD2); (try clear N₂); (try clear N2)
    refine Assign_Comp_E F₂ (fun H i' ys hh => (∀ b o, H.get? b = some o → b ≠ L' → b ≠ src → hh.get? b = some o) ∧ SrcOk hh src ∧ ∃ prs, StL hh ys prs) ?stab2 (by with_unfolding_all rfl) (by with_unfolding_all rfl) (by decide) (by rfl) (by decide) rfl rfl ?_
    case stab2 => exact fun i' ys zs h h' C D mC F hC hD hC₀ hD₀ hJ kc => ⟨keepC_oldS hC₀ hD₀ hJ.1 kc, keepC_src s2.1 hC₀ hD₀ nsL kc hJ.2.1, let ⟨prs, x⟩ := hJ.2.2; ⟨prs, x.tup (keepC_tups F hC hD kc)⟩⟩
    (repeat' ((fail_if_success (with_reducible refine stop_at (by first | (constructor; done) | exact .call (by decide)) ?_)); first | (k_unfold; (try dsimp only)) | (k_end; wrow_close) | ((first | ((with_reducible show wpAny _ _ (call (Value.builtin "list.append") [Value.ref _, _]) _ _ _); refine append_K (by k_asm) (by k_asm) (by k_upd) ?_ (by first | size_fits | (simp [sizeLine]; done) | ktr_units); intro hzz9 Fzz9 Nzz9; (try k_sweep)) | ((with_reducible show wpAny _ _ (call (Value.ref 154) _) _ _ _); refine take_use (by k_asm) (by k_asm) (by k_asm) (by k_asm) (by k_mem) (by assumption) (by intro ozz9; k_upd) (by ktr_room) (by ktr_room) (by first | decide | ktr_units | assumption) (by first | decide | ktr_units | assumption) ?_; k_whole; intro rzz9 tzz9 hzz9 tkzz9 ozz9 hr0zz9 hr1zz9 Fzz9 Nzz9 hozz9; (try dsimp only at Nzz9); (try k_sweep)) | ((with_reducible show wpAny _ _ (spliced _) _ _ _); refine' args_plain ?qSS ?qFF ?qkk ?qPP ?_; (case qSS => rfl); (case qFF => k_asm); (case qkk => rfl); (case qPP => repeat' first | exact Plain.nil | (apply Plain.name; exact rfl; exact rfl; decide) | apply Plain.none | apply Plain.bool | apply Plain.int | apply Plain.str); k_whole; (try dsimp only [List.cons_append, List.nil_append])) | walk1) <;> first | (with_reducible show wpAny _ _ (subscriptTail _ (PySem.Expr.Slice _ _ _ _) _ _) _ _ _) | (try dsimp only)) | (dsimp only; walk1) | (leave1; try dsimp only) | fail "no step"))
    rename IsRange _ _ _ _ _ _ _ _ => hR2; rename Fr _ _ _ _ => F₃; rename News _ _ _ _ => N₃; rename 0 ≤ _ => hq0; rename _ < (4 : Int) => hq1
    refine hide (fun P9 toP9 => ?_)
    obtain ⟨c', hc3, hce⟩ := toNat3 hq0 hq1
    (refine toP9 ?_; clear toP9 P9)
    rw [hce] at hR2
    refine wpAny_pyIter_range hR2 (small_to (n := c') (by omega)) ?_
    rw [size_to]
    have k3 := k23 _ _ _ F₃ N₃ (fun p hp => .tail _ (.tail _ hp))
    have hs3 : SrcOk _ src := ⟨_, N₃.get (.head _), by assumption⟩
    have al3 : ∀ b o, Heap.get? _ b = some o → b ≠ L' → Heap.get? _ b ≠ none := fun b o e hb q => by
      by_cases hbs : b = src
      · obtain ⟨o', ho', _⟩ := hs3
        rw [hbs, ho'] at q; cases q
      · rw [k3 b o e hb (by simpa using hbs)] at q; cases q
    refine ⟨c', compE_range rfl F₃ al3 rfl rfl (by unfold sizeLine; omega) (fun h' kh => ⟨fun b o e b1 b2 => kh _ _ (k3 b o e b1 (by simpa using b2)), srcOk_keep hs3 (fun o e _ => kh _ _ e), [], .nil⟩) 0 1 ?el, ?after⟩
    case el =>
      intro C D' i' hh tkh ys mC R' hi' hy _ F₄ hC hD n1' n2' n3' n4' n5' hC₀ hD₀ hJ'
      refine hide (fun P9 toP9 => ?_)
      obtain ⟨oC, hoC, nC⟩ := LCg.ns_obj hC
      obtain ⟨hk', ⟨os4, hos4, hso4⟩, prs, hst⟩ := hJ'
      have hc4 := hk' _ _ C2.1 C2.2.1 (Ne.symm nsC)
      have nsC' : src ≠ C := fun q => by have z := s2.1; rw [q, hC₀] at z; cases z
      have nsD' : src ≠ D' := fun q => by have z := s2.1; rw [q, hD₀] at z; cases z
      have N₄ := news_cons (p := (src, os4)) ⟨hos4, nsL, gsrc⟩ (news_cons (p := (C, oC)) ⟨hoC, Ne.symm n2', n4'⟩ (news_cons (p := (D', LCg.lst ys)) ⟨hD, Ne.symm n3', n5'⟩ (news_cons (p := (L' + 1, oc)) ⟨hc4, C2.2⟩ News.nil)))
      (try clear F₃); (try clear N₃)
      (refine toP9 ?_; clear toP9 P9)
      (try dsimp only)
      (repeat' ((fail_if_success (with_reducible refine stop_at (by first | (constructor; done) | exact .call (by decide)) ?_)); first | (k_unfold; (try dsimp only)) | (k_end; wrow_close) | ((first | ((with_reducible show wpAny _ _ (call (Value.builtin "list.append") [Value.ref _, _]) _ _ _); refine append_K (by k_asm) (by k_asm) (by k_upd) ?_ (by first | size_fits | (simp [sizeLine]; done) | ktr_units); intro hzz9 Fzz9 Nzz9; (try k_sweep)) | ((with_reducible show wpAny _ _ (call (Value.ref 154) _) _ _ _); refine take_use (by k_asm) (by k_asm) (by k_asm) (by k_asm) (by k_mem) (by assumption) (by intro ozz9; k_upd) (by ktr_room) (by ktr_room) (by first | decide | ktr_units | assumption) (by first | decide | ktr_units | assumption) ?_; k_whole; intro rzz9 tzz9 hzz9 tkzz9 ozz9 hr0zz9 hr1zz9 Fzz9 Nzz9 hozz9; (try dsimp only at Nzz9); (try k_sweep)) | ((with_reducible show wpAny _ _ (spliced _) _ _ _); refine' args_plain ?qSS ?qFF ?qkk ?qPP ?_; (case qSS => rfl); (case qFF => k_asm); (case qkk => rfl); (case qPP => repeat' first | exact Plain.nil | (apply Plain.name; exact rfl; exact rfl; decide) | apply Plain.none | apply Plain.bool | apply Plain.int | apply Plain.str); k_whole; (try dsimp only [List.cons_append, List.nil_append])) | walk1) <;> first | (with_reducible show wpAny _ _ (subscriptTail _ (PySem.Expr.Slice _ _ _ _) _ _) _ _ _) | (try dsimp only)) | (dsimp only; walk1) | (leave1; try dsimp only) | fail "no step"))
      refine statement_ok X' T' F₄.keep gsrc ⟨os4, hos4, hso4⟩ (by ktr_room) (by ktr_room) ?_
      intro r h5 tk5 kb hs5 fr5 hp5
      have kb' : ∀ b o, hh.get? b = some o → b ≠ src → h5.get? b = some o := fun b o e hb => kb b o e (by simpa using hb)
      have kt5 : KeepTup hh h5 := fun b vs n e => kb' b _ e (fun q => src_no_tup ⟨os4, hos4, hso4⟩ vs n (q ▸ e))
      refine hide (fun P9 toP9 => ?_)
      obtain ⟨sv, dv, nn, e5, st5⟩ := hp5
      (refine toP9 ?_; clear toP9 P9)
      refine ⟨h5, tk5, mC, rfl, back_but F₄ kb gsrc nsL, nC.ns (kb' C _ hoC (Ne.symm nsC')), kb' D' _ hD (Ne.symm nsD'), ?_, fun b o e b1 b2 => kb' b o (hk' b o e b1 b2) b2, hs5, prs ++ [(sv, dv)], (hst.tup kt5).append (.cons e5 st5 .nil)⟩
      intro b o e f
      refine kb' b o e (fun q => ?_)
      subst q
      rw [hos4] at e; cases e
      refine hide (fun P9 toP9 => ?_)
      obtain ⟨p, q, t1, t2, n, rfl⟩ := hso4
      (refine toP9 ?_; clear toP9 P9)
      cases f
    case after =>
      intro S h6 tk6 ys hyl F₆ hS g6 nSL hS₀ hJ'
      refine hide (fun P9 toP9 => ?_)
      obtain ⟨hk', ⟨os6, hos6, hso6⟩, prs, hst⟩ := hJ'
      have B6 := hk' _ _ B2.1 B2.2.1 n4; have R6 := hk' _ _ R2.1 R2.2.1 n5; have G6 := hk' _ _ G2.1 G2.2.1 n6; have C6 := hk' _ _ C2.1 C2.2.1 (Ne.symm nsC)
      have q6 : ∀ b o, h.get? b = some o → b ≠ L' → b ∉ [src, B, R, G] → h6.get? b = some o := fun b o e b1 b2 => hk' b o (q2 b o e b1 b2) b1 (fun q => b2 (q ▸ .head _))
      have SB : S ≠ B := fun q => by have z := B2.1; rw [← q, hS₀] at z; cases z
      have SR : S ≠ R := fun q => by have z := R2.1; rw [← q, hS₀] at z; cases z
      have SG : S ≠ G := fun q => by have z := G2.1; rw [← q, hS₀] at z; cases z
      have Ss : S ≠ src := fun q => by have z := s2.1; rw [← q, hS₀] at z; cases z
      have SC : S ≠ L' + 1 := fun q => by have z := C2.1; rw [← q, hS₀] at z; cases z
      obtain ⟨D6, N6, hDn6, hDD6⟩ := refresh F₆ (news_cons (p := (src, os6)) ⟨hos6, nsL, gsrc⟩ (news_cons (p := (B, listOf (List.toArray bvs) nb)) ⟨B6, eB⟩ (news_cons (p := (R, listOf (List.toArray rvs) nr)) ⟨R6, eR⟩ (news_cons (p := (G, listOf (List.toArray gvs) ng)) ⟨G6, eG⟩ News.nil))))
      have N₆ := news_cons (p := (src, os6)) ⟨hos6, nsL, gsrc⟩ (news_cons (p := (B, listOf (List.toArray bvs) nb)) ⟨B6, eB⟩ (news_cons (p := (R, listOf (List.toArray rvs) nr)) ⟨R6, eR⟩ (news_cons (p := (G, listOf (List.toArray gvs) ng)) ⟨G6, eG⟩ (news_cons (p := (L' + 1, oc)) ⟨C6, eC⟩ (news_cons (p := (S, LCg.lst ys)) ⟨hS, nSL, g6⟩ N6)))))
      have d6a := off_ms hDn6 (a := src) (.head _); have d6b := off_ms hDn6 (a := B) (.tail _ (.head _)); have d6c := off_ms hDn6 (a := R) (.tail _ (.tail _ (.head _))); have d6d := off_ms hDn6 (a := G) (.tail _ (.tail _ (.tail _ (.head _))))
      have k6 : ∀ h' m' news', Fr g L' h' m' → News g L' h' news' → (∀ p ∈ D6, p ∈ news') → ∀ b o, h6.get? b = some o → b ≠ L' → b ∉ [src, B, R, G] → h'.get? b = some o := fun _ _ _ a b c => keepMs_of hDD6 a b c
      (try clear hDD6); (try clear N6); (try clear F₃); (try clear N₃); (try clear F₂); (try clear N2')
      (refine toP9 ?_; clear toP9 P9)
      (try dsimp only)
      (repeat' ((fail_if_success (with_reducible refine stop_at (by first | (constructor; done) | exact .call (by decide)) ?_)); first | (k_unfold; (try dsimp only)) | (k_end; wrow_close) | ((first | ((with_reducible show wpAny _ _ (call (Value.builtin "list.append") [Value.ref _, _]) _ _ _); refine append_K (by k_asm) (by k_asm) (by k_upd) ?_ (by first | size_fits | (simp [sizeLine]; done) | ktr_units); intro hzz9 Fzz9 Nzz9; (try k_sweep)) | ((with_reducible show wpAny _ _ (call (Value.ref 154) _) _ _ _); refine take_use (by k_asm) (by k_asm) (by k_asm) (by k_asm) (by k_mem) (by assumption) (by intro ozz9; k_upd) (by ktr_room) (by ktr_room) (by first | decide | ktr_units | assumption) (by first | decide | ktr_units | assumption) ?_; k_whole; intro rzz9 tzz9 hzz9 tkzz9 ozz9 hr0zz9 hr1zz9 Fzz9 Nzz9 hozz9; (try dsimp only at Nzz9); (try k_sweep)) | ((with_reducible show wpAny _ _ (spliced _) _ _ _); refine' args_plain ?qSS ?qFF ?qkk ?qPP ?_; (case qSS => rfl); (case qFF => k_asm); (case qkk => rfl); (case qPP => repeat' first | exact Plain.nil | (apply Plain.name; exact rfl; exact rfl; decide) | apply Plain.none | apply Plain.bool | apply Plain.int | apply Plain.str); k_whole; (try dsimp only [List.cons_append, List.nil_append])) | walk1) <;> first | (with_reducible show wpAny _ _ (subscriptTail _ (PySem.Expr.Slice _ _ _ _) _ _) _ _ _) | (try dsimp only)) | (dsimp only; walk1) | (leave1; try dsimp only) | fail "no step"))
      rename Fr _ _ _ _ => F₇; rename News _ _ _ _ => N₇
      have q7 := k6 _ _ _ F₇ N₇ (fun p hp => .tail _ (.tail _ (.tail _ (.tail _ (.tail _ (.tail _ hp))))))
      have kt7 := keepTup_ms F₇ (fun b o e b1 b2 => e) (bad_no_tup (N₇ _ (.head _)).1 hso6 (N₇ _ (.tail _ (.head _))).1 (N₇ _ (.tail _ (.tail _ (.head _)))).1 (N₇ _ (.tail _ (.tail _ (.tail _ (.head _))))).1)
      have s7 := N₇ _ (.head _); have B7 := N₇ _ (.tail _ (.head _)); have R7 := N₇ _ (.tail _ (.tail _ (.head _))); have G7 := N₇ _ (.tail _ (.tail _ (.tail _ (.head _)))); have C7 := N₇ _ (.tail _ (.tail _ (.tail _ (.tail _ (.head _))))); have S7 := N₇ _ (.tail _ (.tail _ (.tail _ (.tail _ (.tail _ (.head _))))))
      refine end_ok X' T' F₇.keep gsrc ⟨os6, s7.1, hso6⟩ (by ktr_room) (by ktr_room) (by omega) (by omega) ?_
      intro r h8 tk8 kb hs8 fr8 he8
      refine hide (fun P9 toP9 => ?_)
      obtain ⟨tv, dv, gl, nn, gs, gvl, ngl, fgl, e8, ht8, l8, hi8, hg8⟩ := he8
      obtain ⟨tm, du, rfl, rfl⟩ := ht8.refs
      obtain ⟨os8, hos8, hso8⟩ := hs8
      have kb' : ∀ b o, h6.get? b = some o → b ≠ src → h8.get? b = some o := fun b o e hb => kb b o e (by simpa using hb)
      replace fr8 : h6.get? r = none := fr8
      replace fgl : h6.get? gl = none := fgl
      have F₈ := back_but F₇ kb gsrc nsL
      have kt8 : KeepTup h6 h8 := fun b vs n e => kb' b _ e (fun q => src_no_tup ⟨os6, hos6, hso6⟩ vs n (q ▸ e))
      have hst8 := hst.tup kt8
      obtain ⟨oL, hoL⟩ := ns_some F₇.ns
      have rL := ne_of_none hoL fr8; have rs := ne_of_none hos6 fr8; have rB := ne_of_none B6 fr8; have rR := ne_of_none R6 fr8; have rG := ne_of_none G6 fr8
      have gr := none_of F₇.keep fr8
      have glL := ne_of_none hoL fgl; have gls := ne_of_none hos6 fgl; have glB := ne_of_none B6 fgl; have glR := ne_of_none R6 fgl; have glG := ne_of_none G6 fgl
      have ggl := none_of F₇.keep fgl
      have B8 := kb' _ _ B6 n4; have R8 := kb' _ _ R6 n5; have G8 := kb' _ _ G6 n6; have C8 := kb' _ _ C6 (Ne.symm nsC); have S8 := kb' _ _ hS Ss
      have q8 : ∀ b o, h.get? b = some o → b ≠ L' → b ∉ [src, B, R, G] → h8.get? b = some o := fun b o e b1 b2 => kb' b o (q6 b o e b1 b2) (fun q => b2 (q ▸ .head _))
      obtain ⟨D8, N8, hDn8, hDD8⟩ := refresh F₈ (news_cons (p := (src, os8)) ⟨hos8, nsL, gsrc⟩ (news_cons (p := (B, listOf (List.toArray bvs) nb)) ⟨B8, eB⟩ (news_cons (p := (R, listOf (List.toArray rvs) nr)) ⟨R8, eR⟩ (news_cons (p := (G, listOf (List.toArray gvs) ng)) ⟨G8, eG⟩ News.nil))))
      have N₈ := news_cons (p := (r, tupObj [.ref tm, .ref du, .ref gl] nn)) ⟨e8, rL, gr⟩ (news_cons (p := (src, os8)) ⟨hos8, nsL, gsrc⟩ (news_cons (p := (B, listOf (List.toArray bvs) nb)) ⟨B8, eB⟩ (news_cons (p := (R, listOf (List.toArray rvs) nr)) ⟨R8, eR⟩ (news_cons (p := (G, listOf (List.toArray gvs) ng)) ⟨G8, eG⟩ (news_cons (p := (L' + 1, oc)) ⟨C8, eC⟩ (news_cons (p := (S, LCg.lst ys)) ⟨S8, nSL, g6⟩ N8))))))
      have d8a := off_ms hDn8 (a := src) (.head _); have d8b := off_ms hDn8 (a := B) (.tail _ (.head _)); have d8c := off_ms hDn8 (a := R) (.tail _ (.tail _ (.head _))); have d8d := off_ms hDn8 (a := G) (.tail _ (.tail _ (.tail _ (.head _))))
      have k8 : ∀ h' m' news', Fr g L' h' m' → News g L' h' news' → (∀ p ∈ D8, p ∈ news') → ∀ b o, h8.get? b = some o → b ≠ L' → b ∉ [src, B, R, G] → h'.get? b = some o := fun _ _ _ a b c => keepMs_of hDD8 a b c
      have bad8 := bad_no_tup hos8 hso8 B8 R8 G8
      have kt89 := fun (h' : Heap) (q : ∀ b o, h8.get? b = some o → b ≠ L' → b ∉ [src, B, R, G] → h'.get? b = some o) => keepTup_ms (h' := h') F₈ q bad8
      clear hDD8 N8 kt7 q7 s7 B7 R7 G7 C7 S7 hDn6 d6a d6b d6c d6d k6 kb
      (try clear F₇); (try clear N₇)
      (refine toP9 ?_; clear toP9 P9)
      (try dsimp only)
      (repeat' ((fail_if_success (with_reducible refine stop_at (by first | (constructor; done) | exact .call (by decide)) ?_)); first | (k_unfold; (try dsimp only)) | (k_end; wrow_close) | ((first | ((with_reducible show wpAny _ _ (call (Value.builtin "list.append") [Value.ref _, _]) _ _ _); refine append_K (by k_asm) (by k_asm) (by k_upd) ?_ (by first | size_fits | (simp [sizeLine]; done) | ktr_units); intro hzz9 Fzz9 Nzz9; (try k_sweep)) | ((with_reducible show wpAny _ _ (call (Value.ref 154) _) _ _ _); refine take_use (by k_asm) (by k_asm) (by k_asm) (by k_asm) (by k_mem) (by assumption) (by intro ozz9; k_upd) (by ktr_room) (by ktr_room) (by first | decide | ktr_units | assumption) (by first | decide | ktr_units | assumption) ?_; k_whole; intro rzz9 tzz9 hzz9 tkzz9 ozz9 hr0zz9 hr1zz9 Fzz9 Nzz9 hozz9; (try dsimp only at Nzz9); (try k_sweep)) | ((with_reducible show wpAny _ _ (spliced _) _ _ _); refine' args_plain ?qSS ?qFF ?qkk ?qPP ?_; (case qSS => rfl); (case qFF => k_asm); (case qkk => rfl); (case qPP => repeat' first | exact Plain.nil | (apply Plain.name; exact rfl; exact rfl; decide) | apply Plain.none | apply Plain.bool | apply Plain.int | apply Plain.str); k_whole; (try dsimp only [List.cons_append, List.nil_append])) | walk1) <;> first | (with_reducible show wpAny _ _ (subscriptTail _ (PySem.Expr.Slice _ _ _ _) _ _) _ _ _) | (try dsimp only)) | (dsimp only; walk1) | (leave1; try dsimp only) | fail "no step"))
      rename Fr _ _ _ _ => F₉; rename News _ _ _ _ => N₉
      have q9 := k8 _ _ _ F₉ N₉ (fun p hp => .tail _ (.tail _ (.tail _ (.tail _ (.tail _ (.tail _ (.tail _ hp)))))))
      have q09 : ∀ b o, h.get? b = some o → b ≠ L' → b ∉ [src, B, R, G] → Heap.get? _ b = some o := fun b o e b1 b2 => q9 b o (q8 b o e b1 b2) b1 b2
      have hst9 := hst8.tup (kt89 _ q9)
      have ht9 := ht8.tup (kt89 _ q9)
      have sg9 := N₉ _ (.tail _ (.head _)); have B9 := N₉ _ (.tail _ (.tail _ (.head _))); have R9 := N₉ _ (.tail _ (.tail _ (.tail _ (.head _)))); have G9 := N₉ _ (.tail _ (.tail _ (.tail _ (.tail _ (.head _))))); have C9 := N₉ _ (.tail _ (.tail _ (.tail _ (.tail _ (.tail _ (.head _)))))); have S9 := N₉ _ (.tail _ (.tail _ (.tail _ (.tail _ (.tail _ (.tail _ (.head _))))))) 
      have l9 := q9 _ _ l8 glL (by simp [gls, glB, glR, glG])
      clear k8 kt89 bad8
      refine ListComp_EF F₉ (fun H i' zs hh => zs = (prs.map Prod.fst).take i' ∧ ∀ b o, H.get? b = some o → b ≠ L' → hh.get? b = some o) ?stab9 (by with_unfolding_all rfl) (by decide) (by rfl) (by decide) ?_
      case stab9 => exact fun i' ys zs h h' C D mC F hC hD hC₀ hD₀ hJ kc => ⟨hJ.1, keepC_old hC₀ hD₀ hJ.2 kc⟩
      (repeat' ((fail_if_success (with_reducible refine stop_at (by first | (constructor; done) | exact .call (by decide)) ?_)); first | (k_unfold; (try dsimp only)) | (k_end; wrow_close) | ((first | ((with_reducible show wpAny _ _ (call (Value.builtin "list.append") [Value.ref _, _]) _ _ _); refine append_K (by k_asm) (by k_asm) (by k_upd) ?_ (by first | size_fits | (simp [sizeLine]; done) | ktr_units); intro hzz9 Fzz9 Nzz9; (try k_sweep)) | ((with_reducible show wpAny _ _ (call (Value.ref 154) _) _ _ _); refine take_use (by k_asm) (by k_asm) (by k_asm) (by k_asm) (by k_mem) (by assumption) (by intro ozz9; k_upd) (by ktr_room) (by ktr_room) (by first | decide | ktr_units | assumption) (by first | decide | ktr_units | assumption) ?_; k_whole; intro rzz9 tzz9 hzz9 tkzz9 ozz9 hr0zz9 hr1zz9 Fzz9 Nzz9 hozz9; (try dsimp only at Nzz9); (try k_sweep)) | ((with_reducible show wpAny _ _ (spliced _) _ _ _); refine' args_plain ?qSS ?qFF ?qkk ?qPP ?_; (case qSS => rfl); (case qFF => k_asm); (case qkk => rfl); (case qPP => repeat' first | exact Plain.nil | (apply Plain.name; exact rfl; exact rfl; decide) | apply Plain.none | apply Plain.bool | apply Plain.int | apply Plain.str); k_whole; (try dsimp only [List.cons_append, List.nil_append])) | walk1) <;> first | (with_reducible show wpAny _ _ (subscriptTail _ (PySem.Expr.Slice _ _ _ _) _ _) _ _ _) | (try dsimp only)) | (dsimp only; walk1) | (leave1; try dsimp only) | fail "no step"))
      refine wpAny_pyIter_list (isl S9.1) ?_
      refine ⟨ys.length, colE_comp rfl F₉ (fun _ _ e _ => e) F₉.ns rfl rfl rfl (by decide) rfl (.inl ⟨rfl, rfl⟩) (by unfold sizeLine; omega) S9.1 nSL hst9, ?after9⟩
      case after9 =>
      intro E1 h10 tk10 zs hyl' F₁₀ hE1 g10 nE1 hE1₀ hJ10
      have hz : zs = prs.map Prod.fst := by rw [hJ10.1]; exact take_all (by rw [List.length_map]; exact hst9.len)
      have hk10 := hJ10.2
      subst hz
      refine hide (fun P9 toP9 => ?_)
      have kt10 := keepTup_all F₉ hk10
      have ht10 := ht9.tup kt10; have hst10 := hst9.tup kt10
      have e1B := ne_of_none B9.1 hE1₀; have e1R := ne_of_none R9.1 hE1₀; have e1G := ne_of_none G9.1 hE1₀; have e1s := ne_of_none sg9.1 hE1₀; have e1S := ne_of_none S9.1 hE1₀; have e1C := ne_of_none C9.1 hE1₀
      have s10 := hk10 _ _ sg9.1 nsL; have B10 := hk10 _ _ B9.1 eB.1; have R10 := hk10 _ _ R9.1 eR.1; have G10 := hk10 _ _ G9.1 eG.1; have C10 := hk10 _ _ C9.1 eC.1; have S10 := hk10 _ _ S9.1 nSL; have l10 := hk10 _ _ l9 glL
      have q10 : ∀ b o, h.get? b = some o → b ≠ L' → b ∉ [src, B, R, G] → h10.get? b = some o := fun b o e b1 b2 => hk10 b o (q09 b o e b1 b2) b1
      obtain ⟨D10, N10, hDn10, hDD10⟩ := refresh F₁₀ (news_cons (p := (src, os8)) ⟨s10, nsL, gsrc⟩ (news_cons (p := (B, listOf (List.toArray bvs) nb)) ⟨B10, eB⟩ (news_cons (p := (R, listOf (List.toArray rvs) nr)) ⟨R10, eR⟩ (news_cons (p := (G, listOf (List.toArray gvs) ng)) ⟨G10, eG⟩ News.nil))))
      have N₁₀ := news_cons (p := (src, os8)) ⟨s10, nsL, gsrc⟩ (news_cons (p := (B, listOf (List.toArray bvs) nb)) ⟨B10, eB⟩ (news_cons (p := (R, listOf (List.toArray rvs) nr)) ⟨R10, eR⟩ (news_cons (p := (G, listOf (List.toArray gvs) ng)) ⟨G10, eG⟩ (news_cons (p := (L' + 1, oc)) ⟨C10, eC⟩ (news_cons (p := (S, LCg.lst ys)) ⟨S10, nSL, g6⟩ (news_cons (p := (E1, LCg.lst (prs.map Prod.fst))) ⟨hE1, nE1, g10⟩ N10))))))
      have d10a := off_ms hDn10 (a := src) (.head _); have d10b := off_ms hDn10 (a := B) (.tail _ (.head _)); have d10c := off_ms hDn10 (a := R) (.tail _ (.tail _ (.head _))); have d10d := off_ms hDn10 (a := G) (.tail _ (.tail _ (.tail _ (.head _))))
      have k10 : ∀ h' m' news', Fr g L' h' m' → News g L' h' news' → (∀ p ∈ D10, p ∈ news') → ∀ b o, h10.get? b = some o → b ≠ L' → b ∉ [src, B, R, G] → h'.get? b = some o := fun _ _ _ a b c => keepMs_of hDD10 a b c
      have bad10 := bad_no_tup s10 hso8 B10 R10 G10
      have kt1011 := fun (h' : Heap) (q : ∀ b o, h10.get? b = some o → b ≠ L' → b ∉ [src, B, R, G] → h'.get? b = some o) => keepTup_ms (h' := h') F₁₀ q bad10
      have nE1b := notBad nE1 e1s e1B e1R e1G
      have bl3 : bvs.length ≤ 10 := by have := y5.1; omega
      have rl3 : rvs.length ≤ 10 := by omega
      have gl3 : gvs.length ≤ 10 := by have := y5.2.1; omega
      clear hDD10 N10 hDn10 hDn8 d8a d8b d8c d8d q9 hk10 kt10 q8 q09 kb' bad10 hJ10
      (try clear F₉); (try clear N₉)
      (refine toP9 ?_; clear toP9 P9)
      (try dsimp only)
      (repeat' ((fail_if_success (with_reducible refine stop_at (by first | (constructor; done) | exact .call (by decide)) ?_)); first | (k_unfold; (try dsimp only)) | (k_end; wrow_close) | ((first | ((with_reducible show wpAny _ _ (call (Value.builtin "list.append") [Value.ref _, _]) _ _ _); refine append_K (by k_asm) (by k_asm) (by k_upd) ?_ (by first | size_fits | (simp [sizeLine]; done) | ktr_units); intro hzz9 Fzz9 Nzz9; (try k_sweep)) | ((with_reducible show wpAny _ _ (call (Value.ref 154) _) _ _ _); refine take_use (by k_asm) (by k_asm) (by k_asm) (by k_asm) (by k_mem) (by assumption) (by intro ozz9; k_upd) (by ktr_room) (by ktr_room) (by first | decide | ktr_units | assumption) (by first | decide | ktr_units | assumption) ?_; k_whole; intro rzz9 tzz9 hzz9 tkzz9 ozz9 hr0zz9 hr1zz9 Fzz9 Nzz9 hozz9; (try dsimp only at Nzz9); (try k_sweep)) | ((with_reducible show wpAny _ _ (spliced _) _ _ _); refine' args_plain ?qSS ?qFF ?qkk ?qPP ?_; (case qSS => rfl); (case qFF => k_asm); (case qkk => rfl); (case qPP => repeat' first | exact Plain.nil | (apply Plain.name; exact rfl; exact rfl; decide) | apply Plain.none | apply Plain.bool | apply Plain.int | apply Plain.str); k_whole; (try dsimp only [List.cons_append, List.nil_append])) | walk1) <;> first | (with_reducible show wpAny _ _ (subscriptTail _ (PySem.Expr.Slice _ _ _ _) _ _) _ _ _) | (try dsimp only)) | (dsimp only; walk1) | (leave1; try dsimp only) | fail "no step"))
      rename Fr _ _ _ _ => F₁₁; rename News _ _ _ _ => N₁₁a
      refine hide (fun P9 toP9 => ?_)
      obtain ⟨bk, N₁₁, nbk⟩ := bkName (R := R) (G := G) N₁₁a (by k_ne) (by k_ne) (by k_ne) (by k_ne)
      (refine toP9 ?_; clear toP9 P9)
      clear N₁₁a
      have q11 := k10 _ _ _ F₁₁ N₁₁ (fun p hp => .tail _ (.tail _ (.tail _ (.tail _ (.tail _ (.tail _ (.tail _ (.tail _ hp))))))))
      have kt11 := kt1011 _ q11
      have hst11 := hst10.tup kt11; have ht11 := ht10.tup kt11
      have bk11 := N₁₁ _ (.head _); have s11 := N₁₁ _ (.tail _ (.head _)); have B11 := N₁₁ _ (.tail _ (.tail _ (.head _))); have R11 := N₁₁ _ (.tail _ (.tail _ (.tail _ (.head _)))); have G11 := N₁₁ _ (.tail _ (.tail _ (.tail _ (.tail _ (.head _))))); have C11 := N₁₁ _ (.tail _ (.tail _ (.tail _ (.tail _ (.tail _ (.head _)))))); have S11 := N₁₁ _ (.tail _ (.tail _ (.tail _ (.tail _ (.tail _ (.tail _ (.head _))))))); have E11 := N₁₁ _ (.tail _ (.tail _ (.tail _ (.tail _ (.tail _ (.tail _ (.tail _ (.head _))))))))
      have l11 := q11 _ _ l10 glL (by simp [gls, glB, glR, glG])
      have q011 : ∀ b o, h.get? b = some o → b ≠ L' → b ∉ [src, B, R, G] → Heap.get? _ b = some o := fun b o e b1 b2 => q11 b o (q10 b o e b1 b2) b1 b2
      clear k10 kt1011 kt11 q10 q11
      refine ListComp_EF F₁₁ (fun H i' zs hh => zs = (prs.map Prod.snd).take i' ∧ ∀ b o, H.get? b = some o → b ≠ L' → hh.get? b = some o) ?stab11 (by with_unfolding_all rfl) (by decide) (by rfl) (by decide) ?_
      case stab11 => exact fun i' ys zs h h' C D mC F hC hD hC₀ hD₀ hJ kc => ⟨hJ.1, keepC_old hC₀ hD₀ hJ.2 kc⟩
      (repeat' ((fail_if_success (with_reducible refine stop_at (by first | (constructor; done) | exact .call (by decide)) ?_)); first | (k_unfold; (try dsimp only)) | (k_end; wrow_close) | ((first | ((with_reducible show wpAny _ _ (call (Value.builtin "list.append") [Value.ref _, _]) _ _ _); refine append_K (by k_asm) (by k_asm) (by k_upd) ?_ (by first | size_fits | (simp [sizeLine]; done) | ktr_units); intro hzz9 Fzz9 Nzz9; (try k_sweep)) | ((with_reducible show wpAny _ _ (call (Value.ref 154) _) _ _ _); refine take_use (by k_asm) (by k_asm) (by k_asm) (by k_asm) (by k_mem) (by assumption) (by intro ozz9; k_upd) (by ktr_room) (by ktr_room) (by first | decide | ktr_units | assumption) (by first | decide | ktr_units | assumption) ?_; k_whole; intro rzz9 tzz9 hzz9 tkzz9 ozz9 hr0zz9 hr1zz9 Fzz9 Nzz9 hozz9; (try dsimp only at Nzz9); (try k_sweep)) | ((with_reducible show wpAny _ _ (spliced _) _ _ _); refine' args_plain ?qSS ?qFF ?qkk ?qPP ?_; (case qSS => rfl); (case qFF => k_asm); (case qkk => rfl); (case qPP => repeat' first | exact Plain.nil | (apply Plain.name; exact rfl; exact rfl; decide) | apply Plain.none | apply Plain.bool | apply Plain.int | apply Plain.str); k_whole; (try dsimp only [List.cons_append, List.nil_append])) | walk1) <;> first | (with_reducible show wpAny _ _ (subscriptTail _ (PySem.Expr.Slice _ _ _ _) _ _) _ _ _) | (try dsimp only)) | (dsimp only; walk1) | (leave1; try dsimp only) | fail "no step"))
      refine wpAny_pyIter_list (isl S11.1) ?_
      refine ⟨ys.length, colE_comp rfl F₁₁ (fun _ _ e _ => e) F₁₁.ns rfl rfl rfl (by decide) rfl (.inr ⟨rfl, rfl⟩) (by unfold sizeLine; omega) S11.1 nSL hst11, ?after11⟩
      case after11 =>
      intro E2 h12 tk12 zs2 hyl2 F₁₂ hE2 g12 nE2 hE2₀ hJ12
      have hz2 : zs2 = prs.map Prod.snd := by rw [hJ12.1]; exact take_all (by rw [List.length_map]; exact hst11.len)
      have hk12 := hJ12.2
      subst hz2
      refine hide (fun P9 toP9 => ?_)
      have kt12 := keepTup_all F₁₁ hk12
      have ht12 := ht11.tup kt12; have hst12 := hst11.tup kt12
      have e2B := ne_of_none B11.1 hE2₀; have e2R := ne_of_none R11.1 hE2₀; have e2G := ne_of_none G11.1 hE2₀; have e2s := ne_of_none s11.1 hE2₀; have e2C := ne_of_none C11.1 hE2₀
      have s12 := hk12 _ _ s11.1 nsL; have B12 := hk12 _ _ B11.1 eB.1; have R12 := hk12 _ _ R11.1 eR.1; have G12 := hk12 _ _ G11.1 eG.1; have C12 := hk12 _ _ C11.1 eC.1; have l12 := hk12 _ _ l11 glL; have bk12 := hk12 _ _ bk11.1 bk11.2.1; have E12 := hk12 _ _ E11.1 nE1
      have q12 : ∀ b o, h.get? b = some o → b ≠ L' → b ∉ [src, B, R, G] → h12.get? b = some o := fun b o e b1 b2 => hk12 b o (q011 b o e b1 b2) b1
      obtain ⟨D12, N12, hDn12, hDD12⟩ := refresh F₁₂ (news_cons (p := (src, os8)) ⟨s12, nsL, gsrc⟩ (news_cons (p := (B, listOf (List.toArray (bvs ++ [.ref bk])) (nb + 1))) ⟨B12, eB⟩ (news_cons (p := (R, listOf (List.toArray rvs) nr)) ⟨R12, eR⟩ (news_cons (p := (G, listOf (List.toArray gvs) ng)) ⟨G12, eG⟩ News.nil))))
      have N₁₂ := news_cons (p := (src, os8)) ⟨s12, nsL, gsrc⟩ (news_cons (p := (B, listOf (List.toArray (bvs ++ [.ref bk])) (nb + 1))) ⟨B12, eB⟩ (news_cons (p := (R, listOf (List.toArray rvs) nr)) ⟨R12, eR⟩ (news_cons (p := (G, listOf (List.toArray gvs) ng)) ⟨G12, eG⟩ (news_cons (p := (L' + 1, oc)) ⟨C12, eC⟩ (news_cons (p := (E2, LCg.lst (prs.map Prod.snd))) ⟨hE2, nE2, g12⟩ N12)))))
      have d12a := off_ms hDn12 (a := src) (.head _); have d12b := off_ms hDn12 (a := B) (.tail _ (.head _)); have d12c := off_ms hDn12 (a := R) (.tail _ (.tail _ (.head _))); have d12d := off_ms hDn12 (a := G) (.tail _ (.tail _ (.tail _ (.head _))))
      have k12 : ∀ h' m' news', Fr g L' h' m' → News g L' h' news' → (∀ p ∈ D12, p ∈ news') → ∀ b o, h12.get? b = some o → b ≠ L' → b ∉ [src, B, R, G] → h'.get? b = some o := fun _ _ _ a b c => keepMs_of hDD12 a b c
      have bad12 := bad_no_tup s12 hso8 B12 R12 G12
      have kt1213 := fun (h' : Heap) (q : ∀ b o, h12.get? b = some o → b ≠ L' → b ∉ [src, B, R, G] → h'.get? b = some o) => keepTup_ms (h' := h') F₁₂ q bad12
      have prl : prs.length ≤ 3 := by have := hst12.len; omega
      clear hDD12 N12 hDn12 d10a d10b d10c d10d hk12 kt12 q011 bad12 hJ12
      (try clear F₁₁); (try clear N₁₁)
      (refine toP9 ?_; clear toP9 P9)
      (try dsimp only)
      (repeat' ((fail_if_success (with_reducible refine stop_at (by first | (constructor; done) | exact .call (by decide)) ?_)); first | (k_unfold; (try dsimp only)) | (k_end; wrow_close) | ((first | ((with_reducible show wpAny _ _ (call (Value.builtin "list.append") [Value.ref _, _]) _ _ _); refine append_K (by k_asm) (by k_asm) (by k_upd) ?_ (by first | size_fits | (simp [sizeLine]; done) | ktr_units); intro hzz9 Fzz9 Nzz9; (try k_sweep)) | ((with_reducible show wpAny _ _ (call (Value.ref 154) _) _ _ _); refine take_use (by k_asm) (by k_asm) (by k_asm) (by k_asm) (by k_mem) (by assumption) (by intro ozz9; k_upd) (by ktr_room) (by ktr_room) (by first | decide | ktr_units | assumption) (by first | decide | ktr_units | assumption) ?_; k_whole; intro rzz9 tzz9 hzz9 tkzz9 ozz9 hr0zz9 hr1zz9 Fzz9 Nzz9 hozz9; (try dsimp only at Nzz9); (try k_sweep)) | ((with_reducible show wpAny _ _ (spliced _) _ _ _); refine' args_plain ?qSS ?qFF ?qkk ?qPP ?_; (case qSS => rfl); (case qFF => k_asm); (case qkk => rfl); (case qPP => repeat' first | exact Plain.nil | (apply Plain.name; exact rfl; exact rfl; decide) | apply Plain.none | apply Plain.bool | apply Plain.int | apply Plain.str); k_whole; (try dsimp only [List.cons_append, List.nil_append])) | walk1) <;> first | (with_reducible show wpAny _ _ (subscriptTail _ (PySem.Expr.Slice _ _ _ _) _ _) _ _ _) | (try dsimp only)) | (dsimp only; walk1) | (leave1; try dsimp only) | fail "no step"))
      rename Fr _ _ _ _ => F₁₃; rename News _ _ _ _ => N₁₃
      refine add_lists (vs := prs.map Prod.snd) (ws := [.ref du]) F₁₃ N₁₃ (N₁₃.isList (.tail _ (.tail _ (.tail _ (.tail _ (.tail _ (.tail _ (.head _)))))))) (N₁₃.isList (.head _)) ?_ (by rw [List.length_map]; unfold sizeLine; simp only [List.length_cons, List.length_nil]; omega)
      intro h14 F₁₄ N₁₄
      have w1 : _ ≠ src := Nat.ne_of_gt (Heap.lt_size (N₁₃ _ (.tail _ (.head _))).1)
      have w2 : _ ≠ B := Nat.ne_of_gt (Heap.lt_size (N₁₃ _ (.tail _ (.tail _ (.head _)))).1)
      have w3 : _ ≠ R := Nat.ne_of_gt (Heap.lt_size (N₁₃ _ (.tail _ (.tail _ (.tail _ (.head _))))).1)
      have w4 : _ ≠ G := Nat.ne_of_gt (Heap.lt_size (N₁₃ _ (.tail _ (.tail _ (.tail _ (.tail _ (.head _)))))).1)
      clear F₁₃ N₁₃
      (try dsimp only)
      (repeat' ((fail_if_success (with_reducible refine stop_at (by first | (constructor; done) | exact .call (by decide)) ?_)); first | (k_unfold; (try dsimp only)) | (k_end; wrow_close) | ((first | ((with_reducible show wpAny _ _ (call (Value.builtin "list.append") [Value.ref _, _]) _ _ _); refine append_K (by k_asm) (by k_asm) (by k_upd) ?_ (by first | size_fits | (simp [sizeLine]; done) | ktr_units); intro hzz9 Fzz9 Nzz9; (try k_sweep)) | ((with_reducible show wpAny _ _ (call (Value.ref 154) _) _ _ _); refine take_use (by k_asm) (by k_asm) (by k_asm) (by k_asm) (by k_mem) (by assumption) (by intro ozz9; k_upd) (by ktr_room) (by ktr_room) (by first | decide | ktr_units | assumption) (by first | decide | ktr_units | assumption) ?_; k_whole; intro rzz9 tzz9 hzz9 tkzz9 ozz9 hr0zz9 hr1zz9 Fzz9 Nzz9 hozz9; (try dsimp only at Nzz9); (try k_sweep)) | ((with_reducible show wpAny _ _ (spliced _) _ _ _); refine' args_plain ?qSS ?qFF ?qkk ?qPP ?_; (case qSS => rfl); (case qFF => k_asm); (case qkk => rfl); (case qPP => repeat' first | exact Plain.nil | (apply Plain.name; exact rfl; exact rfl; decide) | apply Plain.none | apply Plain.bool | apply Plain.int | apply Plain.str); k_whole; (try dsimp only [List.cons_append, List.nil_append])) | walk1) <;> first | (with_reducible show wpAny _ _ (subscriptTail _ (PySem.Expr.Slice _ _ _ _) _ _) _ _ _) | (try dsimp only)) | (dsimp only; walk1) | (leave1; try dsimp only) | fail "no step"))
      (try dsimp only)
      rename Fr _ _ _ _ => F₁₅; rename News _ _ _ _ => N₁₅
      have q15 := k12 _ _ _ F₁₅ N₁₅ (fun p hp => .tail _ (.tail _ (.tail _ (.tail _ (.tail _ (.tail _ (.tail _ (.tail _ hp))))))))
      have q : ∀ b o, h.get? b = some o → b ≠ L' → b ∉ [src, B, R, G] → Heap.get? _ b = some o := fun b o e b1 b2 => q15 b o (q12 b o e b1 b2) b1 b2
      have HK := ki0 _ q
      have HJ := loop_end N₁₅ hso8 y4 y5 q (kt0 _ q) q15 (kt1213 _ q15) nbk nE1b (notBad (N₁₅ _ (.head _)).2.1 w1 w2 w3 w4) (notBad glL gls glB glR glG) bk12 E12 l12 hst12 ht12 hi8 hg8 prl
      refine ⟨_, _, _, rfl, F₁₅, HK, ?agr, HJ⟩
      intro y hy
      simp only [List.mem_cons, List.not_mem_nil, or_false, not_or] at hy
      simp only [pick, hy, if_false]
set_option maxRecDepth 100000 in
set_option maxHeartbeats 2000000 in
theorem law_holds : PySem.Challenge.rw_xm0585_01.Holds := by
  refine Mine.hd ?_
  k_fill
  intro w s₀ s₁ mg mb G Y fa o pm cd doc dV kV ho hd hcd hD hmg hg args vals as hpre hlay hrd hwl hlo
  have KX := kIn_of Y
  refine Ground.open G ?_
  intro T B D TE TW
  have ef : fa = 228 := by
    have e : mg (Str.ofString "law") = some (.ref 228) := mg_of KX T.g (by k_is)
    have e2 : some (Value.ref fa) = some (Value.ref 228) := hmg.symm.trans e
    cases e2; rfl
  subst ef
  wrow_args hpre hlay hrd hwl hlo
  rename s₁.heap.IsList _ _ => hL; rename IntsAre _ _ => hI; rename ¬ _ => hc
  have hlen : _ := ints_len hI
  refine law_ok KX T (fun _ _ e => e) hL hI (by omega) (fun h' tk' k => ?_)
  refine GoodW.toG ⟨.inl ⟨.bool true, .bool true, [], rfl, ?_, ?_, ?_, ?_⟩, k, rfl, hg⟩
  · intro cls; rfl
  · exact .bool true
  · first | rfl | wrow_post
  · intro _; exact ⟨List.nodup_nil, fun _ q => nomatch q⟩
end Mine
theorem PySem.Challenge.cw_xm0585_01_holds : PySem.Challenge.rw_xm0585_01.Holds := by
  exact Mine.law_holds
