import PyProof.Rows.All
import Wide.All
import OpenK.AllK
import Wide.FinOn
import HandS.ForMost
import HandS.Exc
import HandS.TryOnly
import HandS.ExcOwn
import HandS.HotCalls
import HandS.ExcCtx
import HandS.IsInst
import HandS.Deep
import HandS.TupAny
import HandS.Zip
import HandS.Style
import KE.KDictKeyed
import PyProof.ListStr
import PyProof.StrWalks
import HandS.Strs
import HandS.Codes
import KE.KRevSl
import HandS.ExcIs
import PySem.Challenge.RW_nestwords_k01_signs_and_words
set_option Elab.async false
set_option linter.all false
set_option maxRecDepth 100000
set_option maxHeartbeats 4000000
/-! NV.0: set(text). -/
namespace NV
open PySem PySem.Spec PyProof.Rows L2

/-- how many unlike ones there are -/
def metL {α : Type} [DecidableEq α] (acc : List α) (x : α) : List α := if x ∈ acc then acc else acc ++ [x]
def metN {α : Type} [DecidableEq α] (l : List α) : Nat := (l.foldl metL []).length

theorem metL_mem {α : Type} [DecidableEq α] (acc : List α) (x y : α) : y ∈ metL acc x ↔ y ∈ acc ∨ y = x := by
  unfold metL
  split
  · exact ⟨.inl, fun h => h.elim id fun e => e ▸ by assumption⟩
  · simp
theorem met_mem {α : Type} [DecidableEq α] : ∀ (l acc : List α) (y : α), y ∈ l.foldl metL acc ↔ y ∈ acc ∨ y ∈ l
  | [], acc, y => by simp
  | x :: l, acc, y => by
    rw [List.foldl_cons, met_mem l, metL_mem]
    simp [or_assoc]
theorem met_take {α : Type} [DecidableEq α] {l : List α} {i : Nat} {x : α} (h : l[i]? = some x) : (l.take (i + 1)).foldl metL [] = metL ((l.take i).foldl metL []) x := by
  rw [List.take_add_one, h, Option.toList_some, List.foldl_append]
  rfl
theorem met_le {α : Type} [DecidableEq α] : ∀ (l acc : List α), (l.foldl metL acc).length ≤ acc.length + l.length
  | [], acc => by simp
  | x :: l, acc => by
    rw [List.foldl_cons]
    have := met_le l (metL acc x)
    have h2 : (metL acc x).length ≤ acc.length + 1 := by
      unfold metL
      split <;> simp
    simp only [List.length_cons]
    omega
section
variable {prog : Program} {w : World} {A : Around} {R : Result → Shared → Prop} {I : Addr} {fp wr : List Addr} {G : Array GenState → Array GenState → Prop} {n : Nat} {P : Nat → Value → Prop} {St : Nat → Shared → Prop}
theorem loopMet (W : WalksS prog w A.in1 I fp wr G n P St) (S : Addr) (hSf : S ∉ fp) (xs : List Str) (hsz : xs.length = n) (hn1 : n + 1 < scanBound)
    (hval : ∀ i v, P i v → ∃ x t, xs[i]? = some x ∧ v = .str x t) :
    ∀ (k i : Nat) (s : Shared), n - i = k → i ≤ n → St i s →
      s.heap.SetOf (PySem.strKind prog w) S (fun k' => decide (k' ∈ (xs.take i).foldl metL [])) ((xs.take i).foldl metL []).length →
      (∀ s', Moved (S :: wr) G s s' → s'.heap.SetOf (PySem.strKind prog w) S (fun k' => decide (k' ∈ (xs.take n).foldl metL [])) ((xs.take n).foldl metL []).length → R (.ok (.ret .none)) s') →
      codeAny (model prog w) A (.builtin "set.update.loop" ⟨[.ref S, .ref I], []⟩) R s := by
  have hSw : S ∉ wr := fun h => hSf (W.sub _ h)
  have hsub : ∀ b ∈ wr, b ∈ S :: wr := fun b hb => List.mem_cons_of_mem _ hb
  intro k
  induction k with
  | zero =>
    intro i s hk hi hst hS hR
    have hin : i = n := by omega
    subst hin
    refine codeAny_builtin PyProof.Rows.F.entry_set_update_loop ?_
    rw [Around.under_plainId PyProof.Rows.F.plain_set_update_loop _]
    show wpAny _ A.in1 (pyNext (.ref I) >>= _) _ _ s
    refine wpAny_bind (W.done s _ _ hst fun s' hm => ?_)
    show wpAny _ A.in1 (ret Value.none) _ _ s'
    exact wpAny_pure (hR s' (hm.mono hsub) (by
      obtain ⟨o, es, ep, t, ho, rest⟩ := hS
      exact ⟨o, es, ep, t, hm.heap S _ hSw ho, rest⟩))
  | succ k ih =>
    intro i s hk hi hst hS hR
    have hlt : i < n := by omega
    refine codeAny_builtin PyProof.Rows.F.entry_set_update_loop ?_
    rw [Around.under_plainId PyProof.Rows.F.plain_set_update_loop _]
    show wpAny _ A.in1 (pyNext (.ref I) >>= _) _ _ s
    refine wpAny_bind (W.item i s _ _ hlt hst fun v s' hP hst' hm => ?_)
    obtain ⟨x, t, hx, rfl⟩ := hval i v hP
    have hS' : s'.heap.SetOf (PySem.strKind prog w) S (fun k' => decide (k' ∈ (xs.take i).foldl metL [])) ((xs.take i).foldl metL []).length := by
      obtain ⟨o, es, ep, tb, ho, rest⟩ := hS
      exact ⟨o, es, ep, tb, hm.heap S _ hSw ho, rest⟩
    show wpAny _ A.in1 (holding [Value.str x t] (setAdd S (.str x t)) >>= _) _ _ s'
    refine wpAny_bind (wpAny_holding ?_)
    unfold setAdd
    refine wpAny_holding ?_
    refine wpAny_bind ((PySem.strKind prog w).pyHash (k := x) (strKind_is _ _ _ _) ?_)
    have hroom : ((xs.take i).foldl metL []).length + 1 < scanBound := by
      have := met_le (xs.take i) []
      have h3 : (xs.take i).length ≤ i := by rw [List.length_take]; omega
      simp only [List.length_nil] at this
      omega
    refine wpAny_setAddHashed_of (knd := PySem.strKind prog w) (s := { s' with toks := s'.toks + 1 }) (strKind_is _ _ _ _) rfl hS' hroom fun h' hsb hS2 => ?_
    have hSi : h'.SetOf (PySem.strKind prog w) S (fun k' => decide (k' ∈ (xs.take (i + 1)).foldl metL [])) ((xs.take (i + 1)).foldl metL []).length := by
      rw [met_take hx]
      refine SetOf_congr hS2 (fun k' => ?_) ?_
      · rw [Bool.eq_iff_iff]
        simp [metL_mem]
      · generalize (xs.take i).foldl metL [] = L
        unfold metL
        by_cases hm : x ∈ L
        · simp [hm]
        · simp [hm]
    refine wpAny_pure ⟨plainId_quiet PyProof.Rows.F.plain_set_update_loop _, ih (i + 1) _ (by omega) hlt (W.frame _ s' _ _ hst' (Nat.le_succ _) fun b hb o e => ?_) hSi fun s'' hm'' hS'' => ?_⟩
    · rw [hsb.2 b (fun h : b = S => hSf (by rw [← h]; exact hb))]; exact e
    · refine hR s'' (Moved.trans W.gtrans ((hm.mono hsub).then_heap (Nat.le_succ _) fun b o hb e => ?_) hm'') hS''
      rw [hsb.2 b (fun h : b = S => hb (by rw [h]; exact List.mem_cons_self))]; exact e
end
section
variable {prog : Program} {w : World} {A : Around} {E : Value → Shared → Prop} {s : Shared}
set_option maxHeartbeats 3200000 in
theorem call_set_txt {x : Str} {t : Tok} {Q : Value → Shared → Prop}
    (hh : A.handled = none) (hn1 : x.cps.size + 1 < scanBound)
    (h : ∀ (h' : Heap) (tk : Nat), h'.SetOf (PySem.strKind prog w) s.heap.objs.size (fun k' => decide (k' ∈ (x.cps.toList.map fun c => (⟨#[c]⟩ : Str)).foldl metL [])) ((x.cps.toList.map fun c => (⟨#[c]⟩ : Str)).foldl metL []).length →
      (∀ b o, b < s.heap.objs.size → s.heap.get? b = some o → h'.get? b = some o) → Q (.ref s.heap.objs.size) { s with heap := h', toks := tk }) :
    wpAny (model prog w) A (call (.type "set") [.str x t]) Q E s := by
  obtain ⟨c, tl, hmro⟩ := PySem.F.called_set.mro
  have hmade := PySem.F.called_set.made
  have hsub := PySem.F.called_set.sub
  refine wpAny_call (codeAny_of_tree ?_)
  show wpAny _ _ (callAny (.type "set") _) _ _ _
  refine wpAny_pure ⟨Code.quiet_builtin _ (by decide +kernel), codeAny_builtin PySem.F.entry_type_call ?_⟩
  rw [Around.under_plain (weight_type_call_type "set" [.str x t] []) rfl]
  have h1 := PySem.F.called_set.notType
  have h2 := PySem.F.called_set.canCreate
  have hct := PySem.F.typeCall_set_1 (.str x t)
  repeat (any_goals (first | assumption | wp_step))
  refine codeAny_mono (code_set_new_1 (.str x t) (E := E) (Q₁ := fun obj s₁ => ∃ led : Bool, obj = .ref s.heap.objs.size ∧ s₁ = { s with heap := s.heap.push { cls := .type "set", dict := none, data := .set #[] 0 (.fresh 0 0 led) } }) fun led => ⟨led, rfl, rfl⟩) fun r s₁ hr => ?_
  cases r with
  | error e => exact hr
  | ok fl =>
    cases fl with
    | ret obj =>
      obtain ⟨led, rfl, rfl⟩ := hr
      have hS : (s.heap.push { cls := .type "set", dict := none, data := .set #[] 0 (.fresh 0 0 led) }).get? s.heap.objs.size = some { cls := .type "set", dict := none, data := .set #[] 0 (.fresh 0 0 led) } := Heap.get?_push_size _ rfl
      have hT : Shared.TypeIs { s with heap := s.heap.push { cls := .type "set", dict := none, data := .set #[] 0 (.fresh 0 0 led) } } (.ref s.heap.objs.size) "set" := ⟨_, hS, rfl⟩
      have hli := PySem.F.called_set.init.lookup
      have hbi := PySem.F.called_set.init.bind (.ref s.heap.objs.size)
      repeat (any_goals (first | assumption | wp_step))
      refine codeAny_mono (codeAny_call_builtin (R := wants (fun r s₂ => r = .none ∧ ∃ h' tk, s₂ = { s with heap := h', toks := tk } ∧
          h'.SetOf (PySem.strKind prog w) s.heap.objs.size (fun k' => decide (k' ∈ (x.cps.toList.map fun c => (⟨#[c]⟩ : Str)).foldl metL [])) ((x.cps.toList.map fun c => (⟨#[c]⟩ : Str)).foldl metL []).length ∧
          (∀ b o, b < s.heap.objs.size → s.heap.get? b = some o → h'.get? b = some o)) E) PySem.F.called_set.init.plain PySem.F.entry_set_init (check_set_init_1 hT ?_)) fun r₂ s₂ hr₂ => ?_
      · have hsls : isSubtype (.type "str") (.type "set") = pure false := by rw [isSubtype_type]; kernel_rfl
        have hslf : isSubtype (.type "str") (.type "frozenset") = pure false := by rw [isSubtype_type]; kernel_rfl
        unfold Builtin.«set.__init__» noKeywords Builtin.Frozenset.updateFrom
        generalize hPI : pyIter = PI
        wp_walk
        subst hPI
        refine wpAny_pyIter_str fun o St W st0 => ?_
        refine wpAny_bind (wpAny_runValue ?_)
        have hh3 : A.in1.in1.in1.handled = none := by simp [hh]
        have hSf : s.heap.objs.size ∉ [(s.heap.push { cls := .type "set", dict := none, data := .set #[] 0 (.fresh 0 0 led) }).objs.size] := by
          rw [Heap.size_push]; simp only [List.mem_singleton]
          exact Nat.ne_of_lt (Nat.lt_succ_self _)
        refine loopMet ((W _ hh3).toS) s.heap.objs.size hSf (x.cps.toList.map fun c => (⟨#[c]⟩ : Str)) (by simp) hn1 (fun i v hv => ?_) (x.cps.size - 0) 0 _ (by omega) (Nat.zero_le _) st0 ?hS0 ?hR
        · obtain ⟨c, u, h1, rfl⟩ := hv
          refine ⟨⟨#[c]⟩, u, ?_, rfl⟩
          rw [List.getElem?_map, Array.getElem?_toList, h1]
          rfl
        case hS0 =>
          have hget : ((s.heap.push { cls := .type "set", dict := none, data := .set #[] 0 (.fresh 0 0 led) }).push o).get? s.heap.objs.size
              = some { cls := .type "set", dict := none, data := .set #[] 0 (.fresh 0 0 led) } := Heap.get?_push_of_some _ hS
          exact PyProof.Rows.SetOf_congr ((PyProof.Rows.setObjOf_fresh (knd := PySem.strKind prog w) led).setOf hget (by unfold scanBound; omega)) (fun _ => by simp) rfl
        case hR =>
          intro s' hm hS'
          rw [List.take_of_length_le (by simp)] at hS'
          obtain ⟨h', g', d', tk', os'⟩ := s'
          have eg : g' = s.gens := hm.gens
          have ed : d' = s.drawn := hm.drawn
          have eo : os' = s.os := hm.os
          subst eg; subst ed; subst eo
          show wpAny _ _ _ _ _ _
          refine wpAny_pure ?_
          show wpAny _ _ (ret Value.none) _ _ _
          refine wpAny_pure ⟨rfl, h', tk', rfl, hS', fun b o hb e => ?_⟩
          have hb1 : b ≠ s.heap.objs.size := Nat.ne_of_lt hb
          have hb2 : b ≠ (s.heap.push { cls := .type "set", dict := none, data := .set #[] 0 (.fresh 0 0 led) }).objs.size := by
            rw [Heap.size_push]; exact Nat.ne_of_lt (Nat.lt_succ_of_lt hb)
          exact hm.heap b o (by simp only [List.mem_cons, List.mem_singleton, List.not_mem_nil, or_false, not_or]; exact ⟨hb1, hb2⟩) (Heap.get?_push_of_some _ (Heap.get?_push_of_some _ e))
      · cases r₂ with
        | error e => exact hr₂
        | ok fl₂ =>
          cases fl₂ with
          | ret r =>
            obtain ⟨rfl, h', tk, rfl, hS', hk'⟩ := hr₂
            repeat (any_goals (first | assumption | wp_step))
            exact h _ _ hS' hk'
          | _ => exact hr₂.elim
    | _ => exact hr.elim
end
end NV

/-! NV.A: pure values, a pure small language, and its evaluator. -/
namespace NV
open PySem PySem.Spec PyProof.Rows L2

/-- pure data; scr: the law's script -/
inductive D where
  | non | bl (b : Bool) | int (i : Int) | str (s : List Nat)
  | tup (l : List D) | lst (l : List D) | dic (ks vs : List D) | obj (c : String) (l : List D) | scr (l : List Int) | adr (a : Nat)
mutual
def D.beq : D → D → Bool
  | .non, b => match b with | .non => true | _ => false
  | .bl a, b => match b with | .bl b => a == b | _ => false
  | .int a, b => match b with | .int b => a == b | _ => false
  | .str a, b => match b with | .str b => a == b | _ => false
  | .tup a, b => match b with | .tup b => D.beqL a b | _ => false
  | .lst a, b => match b with | .lst b => D.beqL a b | _ => false
  | .dic a a', b => match b with | .dic b b' => D.beqL a b && D.beqL a' b' | _ => false
  | .obj c a, b => match b with | .obj d b => c == d && D.beqL a b | _ => false
  | .scr a, b => match b with | .scr b => a == b | _ => false
  | .adr a, b => match b with | .adr b => a == b | _ => false
termination_by structural a => a
def D.beqL : List D → List D → Bool
  | [], b => match b with | [] => true | _ => false
  | x :: a, b => match b with | y :: b => D.beq x y && D.beqL a b | _ => false
termination_by structural a => a
end
mutual
theorem D.beq_eq : ∀ a b : D, D.beq a b = true ↔ a = b
  | .non, b => by cases b <;> simp [D.beq]
  | .bl a, b => by cases b <;> simp [D.beq]
  | .int a, b => by cases b <;> simp [D.beq]
  | .str a, b => by cases b <;> simp [D.beq]
  | .tup a, b => by cases b <;> simp [D.beq, D.beqL_eq a]
  | .lst a, b => by cases b <;> simp [D.beq, D.beqL_eq a]
  | .dic a a', b => by cases b <;> simp [D.beq, D.beqL_eq a, D.beqL_eq a']
  | .obj c a, b => by cases b <;> simp [D.beq, D.beqL_eq a]
  | .scr a, b => by cases b <;> simp [D.beq]
  | .adr a, b => by cases b <;> simp [D.beq]
termination_by structural a => a
theorem D.beqL_eq : ∀ a b : List D, D.beqL a b = true ↔ a = b
  | [], b => by cases b <;> simp [D.beqL]
  | x :: a, b => by cases b <;> simp [D.beqL, D.beq_eq x, D.beqL_eq a]
termination_by structural a => a
end
instance : DecidableEq D := fun a b => decidable_of_iff _ (D.beq_eq a b)

/-- an outcome -/
inductive Out (ε α : Type) where
  | stuck | ok (a : α) | exc (c : String) (e : ε)
namespace Out
variable {ε α β : Type}
def bind (o : Out ε α) (f : α → Out ε β) : Out ε β := match o with
  | .stuck => .stuck
  | .ok a => f a
  | .exc c e => .exc c e
@[simp] theorem bind_ok (a : α) (f : α → Out ε β) : (Out.ok a).bind f = f a := rfl
@[simp] theorem bind_stuck (f : α → Out ε β) : (Out.stuck : Out ε α).bind f = .stuck := rfl
@[simp] theorem bind_exc (c : String) (e : ε) (f : α → Out ε β) : (Out.exc c e : Out ε α).bind f = .exc c e := rfl
end Out

/-- what a name holds: nothing; a value that stays; an own container; a parameter's container that is changed in place; one that is only read -/
inductive Ent where
  | un | im (d : D) | ow (d : D) | io (d : D) | br (d : D)
abbrev Rho := List Ent
abbrev Res := Out Rho (D × Rho)
def opt (o : Option D) (ρ : Rho) : Res := match o with
  | none => .stuck
  | some d => .ok (d, ρ)
@[simp] theorem opt_some (d : D) (ρ : Rho) : opt (some d) ρ = .ok (d, ρ) := rfl
@[simp] theorem opt_none (ρ : Rho) : opt none ρ = .stuck := rfl

/-- how a parameter is taken -/
inductive PK where
  | im | io | br
  deriving DecidableEq
/-- a def as a function of data: the data behind its io parameters come back beside the answer -/
structure FnE where
  ks : List PK
  fresh : Bool
  F : List D → Out Unit (D × List D)

inductive Op where | add | sub | mul | div | mod
  deriving DecidableEq
inductive Cm where | eq | ne | lt | le | gt | ge | isin | notin | isn | notn
  deriving DecidableEq
inductive Tg where | nm (i : Nat) | tp (l : List Nat)
  deriving DecidableEq
inductive IK where | seq | rng1 | rng2 | zip | enum
  deriving DecidableEq
inductive B1 where | len | all | any | list | tuple | int | str | max | min | sorted | lenset | sortedset
  deriving DecidableEq

inductive ME where
  | var (i : Nat)
  | cst (d : D)
  | bin (o : Op) (a b : ME)
  | neg (a : ME)
  | cmp (o : Cm) (a b : ME)
  | chn (o o' : Cm) (a b c : ME)
  | and (l : List ME) | or (l : List ME) | not (a : ME)
  | ife (c a b : ME)
  | tup (l : List ME) | lst (l : List ME) | emp
  | comp (elt : ME) (tg : Tg) (k : IK) (args : List ME) (ifs : List ME) (own : List Nat)
  | call (f : FnE) (args : List ME)
  | isi (a : ME) (t : String)
  | b1 (b : B1) (a : ME)
  | idx (a i : ME)
  | sl (a : ME) (lo hi : List ME)
  | rev (a : ME)
  | fld (c : String) (k : Nat) (a : ME)
  | join (s a : ME)
  | dsel (ks : List (List Nat)) (vs : List Int) (a : ME)
  | dgetc (ks : List (List Nat)) (vs : List Int) (a : ME) (x : Int)
  | get (d k x : ME)
  | isx (a : ME) (t : Nat → Option Bool)
  | cnt (a x : ME)

/-! ### operations on data -/
def szl : Nat := 16777216
def lenD : D → Option Nat
  | .str s => some s.length
  | .lst l => some l.length
  | .tup l => some l.length
  | .scr l => some l.length
  | .dic ks _ => some ks.length
  | _ => none
def addD : D → D → Option D
  | .int a, .int b => some (.int (a + b))
  | .str a, .str b => if a.length + b.length ≤ szl then some (.str (a ++ b)) else none
  | .lst a, .lst b => if a.length + b.length ≤ szl then some (.lst (a ++ b)) else none
  | .tup a, .tup b => if a.length + b.length ≤ szl then some (.tup (a ++ b)) else none
  | _, _ => none
def subD : D → D → Option D
  | .int a, .int b => some (.int (a - b))
  | _, _ => none
def mulD : D → D → Option D
  | .int a, .int b => if (a.natAbs < 2 ^ 64 ∨ b.natAbs < 2 ^ 64) then some (.int (a * b)) else none
  | _, _ => none
def divD : D → D → Option D
  | .int a, .int b => if 0 < b ∧ b < 1073741824 then some (.int (a / b)) else none
  | _, _ => none
def modD : D → D → Option D
  | .int a, .int b => if 0 < b then some (.int (a % b)) else none
  | _, _ => none
def binD : Op → D → D → Option D
  | .add => addD | .sub => subD | .mul => mulD | .div => divD | .mod => modD
def negD : D → Option D
  | .int a => some (.int (-a))
  | _ => none
mutual
def D.dep : D → Nat
  | .non => 0 | .bl _ => 0 | .int _ => 0 | .str _ => 0
  | .tup l => D.depL l + 1
  | .lst l => D.depL l + 1
  | .dic _ _ => 1000 | .obj _ _ => 1000 | .scr _ => 1000 | .adr _ => 1000
def D.depL : List D → Nat
  | [] => 0
  | x :: l => max (D.dep x) (D.depL l)
end
mutual
def eqD : D → D → Bool
  | .non, b => match b with | .non => true | _ => false
  | .bl a, b => match b with | .bl b => a == b | .int j => (if a then 1 else 0) == j | _ => false
  | .int a, b => match b with | .int b => a == b | .bl b => a == (if b then 1 else 0) | _ => false
  | .str a, b => match b with | .str b => a == b | _ => false
  | .tup a, b => match b with | .tup b => eqL a b | _ => false
  | .lst a, b => match b with | .lst b => eqL a b | _ => false
  | .dic _ _, _ => false
  | .obj _ _, _ => false
  | .scr _, _ => false
  | .adr _, _ => false
termination_by structural a => a
def eqL : List D → List D → Bool
  | [], b => match b with | [] => true | _ => false
  | x :: a, b => match b with | y :: b => eqD x y && eqL a b | _ => false
termination_by structural a => a
end
def eqOk (a b : D) : Bool := decide (a.dep ≤ 64) && decide (b.dep ≤ 64)
/-- a dict's key -/
def keyAt (k : D) : List D → List D → Option D
  | x :: ks, v :: vs => if x = k then some v else keyAt k ks vs
  | _, _ => none
def putAt (k v : D) : List D → List D → List D × List D
  | x :: ks, y :: vs => if x = k then (x :: ks, v :: vs) else let r := putAt k v ks vs; (x :: r.1, y :: r.2)
  | _, _ => ([k], [v])
mutual
def D.isKey : D → Bool
  | .int _ => true | .str _ => true | .non => true
  | .tup l => D.isKeyL l
  | _ => false
def D.isKeyL : List D → Bool
  | [] => true
  | x :: l => D.isKey x && D.isKeyL l
end
/-- a dict's key: a tuple of such -/
def D.tkey : D → Bool
  | .tup l => D.isKeyL l && decide (D.depL l ≤ 6)
  | _ => false
def inD (x : D) : D → Option Bool
  | .str b => match x with | .str [c] => some (b.contains c) | _ => none
  | .lst l => if x.dep ≤ 60 ∧ D.depL l ≤ 60 then some (l.any fun y => eqD y x) else none
  | .tup l => if x.dep = 0 ∧ D.depL l = 0 then some (l.any fun y => eqD y x) else none
  | .dic ks vs => if x.tkey then some (keyAt x ks vs).isSome else none
  | _ => none
def cmpD : Cm → D → D → Option D
  | .eq, a, b => if eqOk a b then some (.bl (eqD a b)) else none
  | .ne, a, b => if eqOk a b then some (.bl (!eqD a b)) else none
  | .lt, .int a, .int b => some (.bl (decide (a < b)))
  | .le, .int a, .int b => some (.bl (decide (a ≤ b)))
  | .gt, .int a, .int b => some (.bl (decide (b < a)))
  | .ge, .int a, .int b => some (.bl (decide (b ≤ a)))
  | .isin, a, b => (inD a b).map .bl
  | .notin, a, b => (inD a b).map fun r => .bl (!r)
  | .isn, a, .non => some (.bl (match a with | .non => true | _ => false))
  | .notn, a, .non => some (.bl (match a with | .non => false | _ => true))
  | _, _, _ => none
def ixD {α : Type} (l : List α) (i : Int) : Option α := if 0 ≤ i then l[i.toNat]? else if -(l.length : Int) ≤ i then l[(i + l.length).toNat]? else none
def idxD : D → D → Option D
  | .lst l, .int i => ixD l i
  | .tup l, .int i => ixD l i
  | .scr l, .int i => (ixD l i).map .int
  | .str l, .int i => (ixD l i).map fun c => .str [c]
  | .dic ks vs, k => if k.tkey then keyAt k ks vs else none
  | _, _ => none
def cutD {α : Type} (l : List α) (lo hi : Option Int) : List α := (l.drop (HT.sIx l.length 0 lo)).take (HT.sIx l.length l.length hi - HT.sIx l.length 0 lo)
def slD (a : D) (lo hi : Option Int) : Option D := match a with
  | .lst l => some (.lst (cutD l lo hi))
  | .tup l => some (.tup (cutD l lo hi))
  | .str l => some (.str (cutD l lo hi))
  | .scr l => some (.lst ((cutD l lo hi).map .int))
  | _ => none
def allBl : List D → Option (List Bool)
  | [] => some []
  | .bl b :: l => (allBl l).map (b :: ·)
  | _ => none
def allInt : List D → Option (List Int)
  | [] => some []
  | .int b :: l => (allInt l).map (b :: ·)
  | _ => none
def allStr : List D → Option (List (List Nat))
  | [] => some []
  | .str b :: l => (allStr l).map (b :: ·)
  | _ => none
mutual
def ltD : D → D → Bool
  | .int a, b => match b with | .int b => decide (a < b) | _ => false
  | .str a, b => match b with | .str b => decide (a < b) | _ => false
  | .tup a, b => match b with | .tup b => ltL a b | _ => false
  | .non, _ => false | .bl _, _ => false | .lst _, _ => false | .dic _ _, _ => false | .obj _ _, _ => false | .scr _, _ => false | .adr _, _ => false
termination_by structural a => a
def ltL : List D → List D → Bool
  | [], b => match b with | [] => false | _ => true
  | x :: a, b => match b with | y :: b => if x = y then ltL a b else ltD x y | _ => false
termination_by structural a => a
end
def sortD (l : List D) : List D := l.mergeSort fun a b => !ltD b a
/-- what it iterates over -/
def itemsD : D → Option (List D)
  | .lst l => some l
  | .tup l => some l
  | .scr l => some (l.map .int)
  | .str l => some (l.map fun c => .str [c])
  | _ => none
def tyN : D → Option String
  | .non => some "NoneType" | .bl _ => some "bool" | .int _ => some "int" | .str _ => some "str" | .tup _ => some "tuple" | .lst _ => some "list" | .scr _ => some "list" | .dic _ _ => some "dict"
  | .obj _ _ => none | .adr _ => none
def tyL : List String := ["str", "int", "bool", "tuple", "list"]
def isiB (n t : String) : Bool := n = t || (n = "bool" && t = "int")
def isiD (a : D) (t : String) : Option Bool := match a with
  | .obj c _ => if c = "Machine" then (if t = "Machine" then some true else if t ∈ tyL then some false else none) else none
  | a => match tyN a with
    | some n => if t = "Machine" then some false else if t ∈ tyL then some (isiB n t) else none
    | none => none
def enumD (n : Nat) : List D → List D
  | [] => []
  | x :: l => .tup [.int n, x] :: enumD (n + 1) l
def zipD : List D → List D → List D
  | x :: a, y :: b => .tup [x, y] :: zipD a b
  | _, _ => []
def rngD (a : Int) (n : Nat) : List D := (List.range n).map fun k : Nat => .int (a + k)
def joinL (s : List Nat) : List (List Nat) → List Nat
  | [] => []
  | [x] => x
  | x :: l => x ++ s ++ joinL s l
def b1D : B1 → D → Option D
  | .len, a => (lenD a).map fun n => .int n
  | .all, .lst l => (allBl l).map fun bs => .bl (bs.all id)
  | .any, .lst l => (allBl l).map fun bs => .bl (bs.any id)
  | .list, .lst l => some (.lst l)
  | .list, .tup l => some (.lst l)
  | .list, .scr l => some (.lst (l.map .int))
  | .list, .str l => some (.lst (l.map fun c => .str [c]))
  | .tuple, .lst l => some (.tup l)
  | .tuple, .tup l => some (.tup l)
  | .int, .int i => some (.int i)
  | .int, .bl b => some (.int (if b then 1 else 0))
  | .lenset, .str l => if l.length ≤ 4000 then some (.int (metN l)) else none
  | .lenset, .lst l => match allInt l with
    | some is => if is.length ≤ 4000 then some (.int (metN is)) else none
    | none => none
  | _, _ => none

/-! ### the evaluator -/
/-- a name may be set anew unless it is pinned -/
def setE (ρ : Rho) (i : Nat) (e : Ent) : Option Rho := match ρ[i]? with
  | some .un => some (ρ.set i e)
  | some (.im _) => some (ρ.set i e)
  | some (.ow _) => some (ρ.set i e)
  | _ => none
def setTs : List Nat → List D → Rho → Option Rho
  | [], [], ρ => some ρ
  | i :: is, d :: ds, ρ => match setE ρ i (.im d) with
    | some ρ' => setTs is ds ρ'
    | none => none
  | _, _, _ => none
def setT : Tg → D → Rho → Option Rho
  | .nm i, d, ρ => setE ρ i (.im d)
  | .tp l, d, ρ => match d with
    | .tup ds => setTs l ds ρ
    | _ => none
/-- the value of a name; an own container that is wanted as a value is a value for good -/
def evVar (ρ : Rho) (i : Nat) : Res := match ρ[i]? with
  | some (.im d) => .ok (d, ρ)
  | some (.ow d) => .ok (d, ρ.set i (.im d))
  | _ => .stuck
/-- the data of a name, read for the moment -/
def peek (ρ : Rho) (i : Nat) : Option D := match ρ[i]? with
  | some (.im d) => some d
  | some (.ow d) => some d
  | some (.io d) => some d
  | some (.br d) => some d
  | _ => none
def isTrueD : D → Option Bool
  | .bl b => some b
  | _ => none
abbrev Ev := Rho → Res
/-- an operand: a name is looked at when all operands have come -/
def pre (m : ME) (e : Ev) (ρ : Rho) : Out Rho (Option D × Rho) := match m with
  | .var i => match peek ρ i with
    | some _ => .ok (none, ρ)
    | none => .stuck
  | _ => (e ρ).bind fun r => .ok (some r.1, r.2)
def fin (m : ME) (o : Option D) (ρ : Rho) : Option D := match m with
  | .var i => peek ρ i
  | _ => o
def finL : List ME → List (Option D) → Rho → Option (List D)
  | [], [], _ => some []
  | m :: ms, o :: os, ρ => match fin m o ρ, finL ms os ρ with
    | some d, some ds => some (d :: ds)
    | _, _ => none
  | _, _, _ => none
/-- names that are walked over are not written to meanwhile -/
def lockE : List ME → Rho → Rho
  | [], ρ => ρ
  | .var i :: ms, ρ => match ρ[i]? with
    | some (.ow d) => lockE ms (ρ.set i (.br d))
    | some (.io d) => lockE ms (ρ.set i (.br d))
    | _ => lockE ms ρ
  | _ :: ms, ρ => lockE ms ρ
def unlockE (ρ0 : Rho) : List ME → Rho → Rho
  | [], ρ => ρ
  | .var i :: ms, ρ => match ρ0[i]? with
    | some (.ow d) => unlockE ρ0 ms (ρ.set i (.ow d))
    | some (.io d) => unlockE ρ0 ms (ρ.set i (.io d))
    | _ => unlockE ρ0 ms ρ
  | _ :: ms, ρ => unlockE ρ0 ms ρ
/-- a comprehension's names forgotten, and put back -/
def wipeE : List Nat → Rho → Option Rho
  | [], ρ => some ρ
  | v :: vs, ρ => match ρ[v]? with
    | some .un => wipeE vs (ρ.set v .un)
    | some (.im _) => wipeE vs (ρ.set v .un)
    | _ => none
def backE (ρ0 : Rho) : List Nat → Rho → Rho
  | [], ρ => ρ
  | v :: vs, ρ => backE ρ0 vs (ρ.set v (ρ0[v]?.getD .un))
def wiped {α : Type} (own : List Nat) (a : α) (ρ : Rho) : Out Rho (α × Rho) := match wipeE own ρ with
  | some ρ' => .ok (a, ρ')
  | none => .stuck
def compStep (elt : Ev) (ifs : Rho → Out Rho (Bool × Rho)) (tg : Tg) (own : List Nat) (d : D) (ρ : Rho) : Out Rho (List D × Rho) :=
  match setT tg d ρ with
  | none => .stuck
  | some ρ1 => (ifs ρ1).bind fun r => if r.1 then (elt r.2).bind fun x => wiped own [x.1] x.2 else wiped own [] r.2
def compLoop (elt : Ev) (ifs : Rho → Out Rho (Bool × Rho)) (tg : Tg) (own : List Nat) : List D → Rho → Out Rho (List D × Rho)
  | [], ρ => .ok ([], ρ)
  | d :: ds, ρ => (compStep elt ifs tg own d ρ).bind fun r => (compLoop elt ifs tg own ds r.2).bind fun q => .ok (r.1 ++ q.1, q.2)
def noexc {α : Type} (o : Out Rho α) : Out Rho α := match o with
  | .ok a => .ok a
  | _ => .stuck
def iterD (k : IK) (ds : List D) : Option (List D) := match k, ds with
  | .seq, [d] => itemsD d
  | .rng1, [.int n] => if n.natAbs ≤ 16777216 then some (rngD 0 n.toNat) else none
  | .rng2, [.int a, .int b] => if a.natAbs ≤ 16777216 ∧ b.natAbs ≤ 8000000 ∧ b - a ≤ 16777216 then some (rngD a (b - a).toNat) else none
  | .zip, [.lst a, .lst b] => some (zipD a b)
  | .zip, [.tup a, .tup b] => some (zipD a b)
  | .enum, [.lst l] => some (enumD 0 l)
  | _, _ => none
/-- the arguments of a call: values; containers that are changed or read in place -/
def evArg (p : PK) (m : ME) (e : Ev) (ρ : Rho) : Out Rho (Option D × Rho) := match p with
  | .im => (e ρ).bind fun r => .ok (some r.1, r.2)
  | _ => match m with
    | .var i => match peek ρ i with
      | some _ => .ok (none, ρ)
      | none => .stuck
    | _ => .stuck
def finArg (p : PK) (m : ME) (o : Option D) (ρ : Rho) : Option D := match p, m with
  | .im, _ => o
  | .io, .var i => match ρ[i]? with
    | some (.ow d) => some d
    | some (.io d) => some d
    | _ => none
  | .br, .var i => match ρ[i]? with
    | some (.ow d) => some d
    | some (.io d) => some d
    | some (.br d) => some d
    | _ => none
  | _, _ => none
def finArgs : List PK → List ME → List (Option D) → Rho → Option (List D)
  | [], [], [], _ => some []
  | p :: ps, m :: ms, o :: os, ρ => match finArg p m o ρ, finArgs ps ms os ρ with
    | some d, some ds => some (d :: ds)
    | _, _ => none
  | _, _, _, _ => none
/-- no name is handed in twice to be held -/
def refIn (i : Nat) : List PK → List ME → Bool
  | .im :: ps, _ :: ms => refIn i ps ms
  | _ :: ps, .var j :: ms => decide (i = j) || refIn i ps ms
  | _, _ => false
def refNd : List PK → List ME → Bool
  | .im :: ps, _ :: ms => refNd ps ms
  | _ :: ps, .var j :: ms => !refIn j ps ms && refNd ps ms
  | _, _ => true
/-- the io arguments' names hold what came back -/
def outArgs : List PK → List ME → List D → Rho → Option Rho
  | [], [], [], ρ => some ρ
  | .io :: ps, .var i :: ms, d :: ds, ρ => match ρ[i]? with
    | some (.ow _) => outArgs ps ms ds (ρ.set i (.ow d))
    | some (.io _) => outArgs ps ms ds (ρ.set i (.io d))
    | _ => none
  | .im :: ps, _ :: ms, ds, ρ => outArgs ps ms ds ρ
  | .br :: ps, _ :: ms, ds, ρ => outArgs ps ms ds ρ
  | _, _, _, _ => none
mutual
def ev : ME → Rho → Res
  | .var i, ρ => evVar ρ i
  | .cst d, ρ => .ok (d, ρ)
  | .bin o a b, ρ => (pre a (ev a) ρ).bind fun x => (pre b (ev b) x.2).bind fun y => match fin a x.1 y.2, fin b y.1 y.2 with
    | some p, some q => opt (binD o p q) y.2
    | _, _ => .stuck
  | .neg a, ρ => (ev a ρ).bind fun x => opt (negD x.1) x.2
  | .cmp o a b, ρ => (pre a (ev a) ρ).bind fun x => (pre b (ev b) x.2).bind fun y => match fin a x.1 y.2, fin b y.1 y.2 with
    | some p, some q => opt (cmpD o p q) y.2
    | _, _ => .stuck
  | .chn o o' a b c, ρ => (ev a ρ).bind fun x => (ev b x.2).bind fun y => match cmpD o x.1 y.1 with
    | some (.bl true) => (ev c y.2).bind fun z => opt (cmpD o' y.1 z.1) z.2
    | some (.bl false) => .ok (.bl false, y.2)
    | _ => .stuck
  | .and l, ρ => evAnd l ρ
  | .or l, ρ => evOr l ρ
  | .not a, ρ => (ev a ρ).bind fun x => match x.1 with
    | .bl b => .ok (.bl (!b), x.2)
    | _ => .stuck
  | .ife c a b, ρ => (ev c ρ).bind fun x => match x.1 with
    | .bl true => ev a x.2
    | .bl false => ev b x.2
    | _ => .stuck
  | .tup l, ρ => (evs l ρ).bind fun x => .ok (.tup x.1, x.2)
  | .lst l, ρ => (evs l ρ).bind fun x => .ok (.lst x.1, x.2)
  | .emp, ρ => .ok (.dic [] [], ρ)
  | .comp elt tg k args ifs own, ρ => (pres args ρ).bind fun x => match (finL args x.1 x.2).bind (iterD k) with
    | none => .stuck
    | some items => match if items.length ≤ szl then wipeE own (lockE args x.2) else none with
      | none => .stuck
      | some ρ2 => (noexc (compLoop (ev elt) (evIfs ifs) tg own items ρ2)).bind fun y => .ok (.lst y.1, unlockE x.2 args (backE x.2 own y.2))
  | .call f args, ρ => (evArgs f.ks args ρ).bind fun x => match if refNd f.ks args then finArgs f.ks args x.1 x.2 else none with
    | none => .stuck
    | some ds => match f.F ds with
      | .stuck => .stuck
      | .exc c _ => if f.ks.contains .io then .stuck else .exc c x.2
      | .ok (d, outs) => match outArgs f.ks args outs x.2 with
        | none => .stuck
        | some ρ' => .ok (d, ρ')
  | .isi a t, ρ => (pre a (ev a) ρ).bind fun x => match fin a x.1 x.2 with
    | some d => opt ((isiD d t).map .bl) x.2
    | none => .stuck
  | .b1 b a, ρ => (pre a (ev a) ρ).bind fun x => match fin a x.1 x.2 with
    | some d => opt (b1D b d) x.2
    | none => .stuck
  | .idx a i, ρ => (pre a (ev a) ρ).bind fun x => (pre i (ev i) x.2).bind fun y => match fin a x.1 y.2, fin i y.1 y.2 with
    | some p, some q => opt (idxD p q) y.2
    | _, _ => .stuck
  | .sl a lo hi, ρ => (pre a (ev a) ρ).bind fun x => (evPart lo x.2).bind fun y => (evPart hi y.2).bind fun z => match fin a x.1 z.2 with
    | some p => opt (slD p y.1 z.1) z.2
    | none => .stuck
  | .rev a, ρ => (pre a (ev a) ρ).bind fun x => match fin a x.1 x.2 with
    | some (.lst l) => .ok (.lst l.reverse, x.2)
    | some (.str l) => .ok (.str l.reverse, x.2)
    | _ => .stuck
  | .fld c k a, ρ => (pre a (ev a) ρ).bind fun x => match fin a x.1 x.2 with
    | some (.obj c' l) => if c = c' then opt l[k]? x.2 else .stuck
    | _ => .stuck
  | .join s a, ρ => (ev s ρ).bind fun x => match x.1 with
    | .str s => (pre a (ev a) x.2).bind fun y => match fin a y.1 y.2 with
      | some (.lst l) => match allStr l with
        | some ls => if (ls.map List.length).sum + ls.length * s.length ≤ 16777216 then .ok (.str (joinL s ls), y.2) else .stuck
        | none => .stuck
      | _ => .stuck
    | _ => .stuck
  | .dsel ks vs a, ρ => (ev a ρ).bind fun x => match x.1 with
    | .str s => match (ks.zip vs).find? fun p => decide (p.1 = s) with
      | some p => .ok (.int p.2, x.2)
      | none => .stuck
    | _ => .stuck
  | .dgetc ks vs a d, ρ => (ev a ρ).bind fun x => match x.1 with
    | .str s => match (ks.zip vs).find? fun p => decide (p.1 = s) with
      | some p => .ok (.int p.2, x.2)
      | none => .ok (.int d, x.2)
    | _ => .stuck
  | .get a k d, ρ => (pre a (ev a) ρ).bind fun x => match fin a x.1 x.2 with
    | some (.dic _ _) => (ev k x.2).bind fun y => (ev d y.2).bind fun z => match fin a x.1 z.2 with
      | some (.dic ks vs) => if y.1.tkey then .ok ((keyAt y.1 ks vs).getD z.1, z.2) else .stuck
      | _ => .stuck
    | _ => .stuck
  | .isx a t, ρ => (ev a ρ).bind fun x => match x.1 with
    | .adr i => match t i with
      | some b => .ok (.bl b, x.2)
      | none => .stuck
    | _ => .stuck
  | .cnt a x, ρ => (pre a (ev a) ρ).bind fun y => match fin a y.1 y.2 with
    | some (.lst _) => (pre x (ev x) y.2).bind fun z => match fin a y.1 z.2, fin x z.1 z.2 with
      | some (.lst l), some d => if d.dep ≤ 60 ∧ D.depL l ≤ 60 then .ok (.int (l.countP fun u => eqD u d : Nat), z.2) else .stuck
      | _, _ => .stuck
    | _ => .stuck
termination_by structural m => m
def evs : List ME → Rho → Out Rho (List D × Rho)
  | [], ρ => .ok ([], ρ)
  | m :: ms, ρ => (ev m ρ).bind fun x => (evs ms x.2).bind fun y => .ok (x.1 :: y.1, y.2)
termination_by structural m => m
def pres : List ME → Rho → Out Rho (List (Option D) × Rho)
  | [], ρ => .ok ([], ρ)
  | m :: ms, ρ => (pre m (ev m) ρ).bind fun x => (pres ms x.2).bind fun y => .ok (x.1 :: y.1, y.2)
termination_by structural m => m
def evArgs : List PK → List ME → Rho → Out Rho (List (Option D) × Rho)
  | ps, [], ρ => match ps with
    | [] => .ok ([], ρ)
    | _ => .stuck
  | ps, m :: ms, ρ => match ps with
    | [] => .stuck
    | p :: ps => (evArg p m (ev m) ρ).bind fun x => (evArgs ps ms x.2).bind fun y => .ok (x.1 :: y.1, y.2)
termination_by structural _ m => m
def evAnd : List ME → Rho → Res
  | [], ρ => .stuck
  | m :: ms, ρ => (ev m ρ).bind fun x => match x.1 with
    | .bl b => match ms with
      | [] => .ok (.bl b, x.2)
      | _ => if b then evAnd ms x.2 else .ok (.bl false, x.2)
    | _ => .stuck
termination_by structural m => m
def evOr : List ME → Rho → Res
  | [], ρ => .stuck
  | m :: ms, ρ => (ev m ρ).bind fun x => match x.1 with
    | .bl b => match ms with
      | [] => .ok (.bl b, x.2)
      | _ => if b then .ok (.bl true, x.2) else evOr ms x.2
    | _ => .stuck
termination_by structural m => m
def evIfs : List ME → Rho → Out Rho (Bool × Rho)
  | [], ρ => .ok (true, ρ)
  | m :: ms, ρ => match ms with
    | [] => (ev m ρ).bind fun x => match x.1 with
      | .bl b => .ok (b, x.2)
      | _ => .stuck
    | _ => .stuck
termination_by structural m => m
def evPart : List ME → Rho → Out Rho (Option Int × Rho)
  | [], ρ => .ok (none, ρ)
  | m :: ms, ρ => match ms with
    | [] => (ev m ρ).bind fun x => match x.1 with
      | .int i => .ok (some i, x.2)
      | _ => .stuck
    | _ => .stuck
termination_by structural m => m
end
/-- statements -/
inductive MS where
  | asg (tg : Tg) (e : ME)
  | asgF (i : Nat) (e : ME)
  | setI (i : Nat) (k v : ME)
  | setK (i : Nat) (k v : ME)
  | app (i : Nat) (e : ME)
  | setd (i j : Nat) (k e : ME)
  | exp (e : ME)
  | ite (c : ME) (a b : List MS)
  | «for» (tg : Tg) (k : IK) (args : List ME) (body : List MS)
  | whl (c : ME) (body : List MS)
  | ret (e : ME) | retN | retF (e : ME)
  | rai (c : String)
  | tryA (body : List MS) (i : Nat) (tu : Bool) (ps : List (D ⊕ ME))
inductive Fl where
  | nx | ret (d : D)
abbrev ResS := Out Rho (Fl × Rho)
abbrev EvS := Rho → ResS
/-- a value that is a new container -/
def isFresh : ME → Bool
  | .lst _ => true
  | .emp => true
  | .comp .. => true
  | .call f _ => f.fresh
  | .b1 .list _ => true
  | .b1 .sorted _ => true
  | _ => false
def unlockO (ρ0 : Rho) (args : List ME) : ResS → ResS
  | .stuck => .stuck
  | .ok (f, ρ) => .ok (f, unlockE ρ0 args ρ)
  | .exc c ρ => .exc c (unlockE ρ0 args ρ)
def forLoop (body : EvS) (tg : Tg) : List D → Rho → ResS
  | [], ρ => .ok (.nx, ρ)
  | d :: ds, ρ => match setT tg d ρ with
    | none => .stuck
    | some ρ1 => (body ρ1).bind fun r => match r.1 with
      | .nx => forLoop body tg ds r.2
      | .ret v => .ok (.ret v, r.2)
def whileLoop (c : Ev) (body : EvS) : Nat → Rho → ResS
  | 0, _ => .stuck
  | n + 1, ρ => (c ρ).bind fun x => match x.1 with
    | .bl true => (body x.2).bind fun r => match r.1 with
      | .nx => whileLoop c body n r.2
      | .ret v => .ok (.ret v, r.2)
    | .bl false => .ok (.nx, x.2)
    | _ => .stuck
/-- own entries -/
def owAt (ρ : Rho) (i : Nat) : Option (D × (D → Ent)) := match ρ[i]? with
  | some (.ow d) => some (d, .ow)
  | some (.io d) => some (d, .io)
  | _ => none
def setIW (d k v : D) : Option D := match d with
  | .lst l => match k with
    | .int i => if 0 ≤ i ∧ i < l.length then some (.lst (l.set i.toNat v)) else none
    | _ => none
  | _ => none
def setKW (d k v : D) : Option D := match d with
  | .dic ks vs => if k.tkey ∧ ks.length < 16777215 then some (.dic (putAt k v ks vs).1 (putAt k v ks vs).2) else none
  | _ => none
def appW (d v : D) : Option D := match d with
  | .lst l => if l.length < 16777215 then some (.lst (l ++ [v])) else none
  | _ => none
/-- the refusals, and what the suite of an except clause tells of one -/
def EXN : List String := ["BadSigns", "BadWord", "BadMachine", "TooMany", "NotPlain", "Unlike", "NoNote"]
def kVal (ρ : Rho) : ME → Option Int
  | .cst d => match d with
    | .int z => some z
    | _ => none
  | .var v => match ρ[v]? with
    | some (.im d) => match d with
      | .int z => some z
      | _ => none
    | _ => none
  | _ => none
def isVar (i : Nat) : ME → Bool
  | .var v => decide (v = i)
  | _ => false
def suD (ρ : Rho) (i j : Nat) : D ⊕ ME → Option D
  | .inl d => some d
  | .inr k => if isVar i k then none else match kVal ρ k with
    | some z => if 0 ≤ z ∧ z < 7 then some (.bl (decide (z = j))) else none
    | none => none
def suDs (ρ : Rho) (i j : Nat) : List (D ⊕ ME) → Option (List D)
  | [] => some []
  | p :: ps => match suD ρ i j p, suDs ρ i j ps with
    | some d, some ds => some (d :: ds)
    | _, _ => none
def suRet (tu : Bool) : List D → Option D
  | ds => if tu then some (.tup ds) else match ds with
    | [d] => some d
    | _ => none
def excIx (c : String) : Option Nat := EXN.findIdx? fun x => x = c
def trySuite (i : Nat) (tu : Bool) (ps : List (D ⊕ ME)) (c : String) (ρ : Rho) : ResS := match excIx c, setE ρ i .un with
  | some j, some ρ2 => match (suDs ρ i j ps).bind (suRet tu) with
    | some d => .ok (.ret d, ρ2)
    | none => .stuck
  | _, _ => .stuck
mutual
def evS (n : Nat) : MS → EvS
  | .asg tg e, ρ => (ev e ρ).bind fun x => match setT tg x.1 x.2 with
    | some ρ' => .ok (.nx, ρ')
    | none => .stuck
  | .asgF i e, ρ => if isFresh e then (ev e ρ).bind fun x => match setE x.2 i (.ow x.1) with
    | some ρ' => .ok (.nx, ρ')
    | none => .stuck else .stuck
  | .setI i k v, ρ => (ev v ρ).bind fun x => match owAt x.2 i with
    | some _ => (ev k x.2).bind fun y => match owAt y.2 i with
      | some (d, f) => match setIW d y.1 x.1 with
        | some d' => .ok (.nx, y.2.set i (f d'))
        | none => .stuck
      | none => .stuck
    | none => .stuck
  | .setK i k v, ρ => (ev v ρ).bind fun x => match owAt x.2 i with
    | some _ => (ev k x.2).bind fun y => match owAt y.2 i with
      | some (d, f) => match setKW d y.1 x.1 with
        | some d' => .ok (.nx, y.2.set i (f d'))
        | none => .stuck
      | none => .stuck
    | none => .stuck
  | .app i e, ρ => match owAt ρ i with
    | some (.lst _, _) => (ev e ρ).bind fun x => match owAt x.2 i with
      | some (d, f) => match appW d x.1 with
        | some d' => .ok (.nx, x.2.set i (f d'))
        | none => .stuck
      | none => .stuck
    | _ => .stuck
  | .setd i j k e, ρ => .stuck
  | .exp e, ρ => (ev e ρ).bind fun x => .ok (.nx, x.2)
  | .ite c a b, ρ => (ev c ρ).bind fun x => match x.1 with
    | .bl true => evSs n a x.2
    | .bl false => evSs n b x.2
    | _ => .stuck
  | .for tg k args body, ρ => (pres args ρ).bind fun x => match (finL args x.1 x.2).bind (iterD k) with
    | none => .stuck
    | some items => unlockO x.2 args (forLoop (evSs n body) tg items (lockE args x.2))
  | .whl c body, ρ => whileLoop (ev c) (evSs n body) n ρ
  | .ret e, ρ => (ev e ρ).bind fun x => .ok (.ret x.1, x.2)
  | .retN, ρ => .ok (.ret .non, ρ)
  | .retF e, ρ => match e with
    | .var i => match ρ[i]? with
      | some (.ow d) => .ok (.ret d, ρ.set i .un)
      | _ => .stuck
    | _ => if isFresh e then (ev e ρ).bind fun x => .ok (.ret x.1, x.2) else .stuck
  | .rai c, ρ => .exc c ρ
  | .tryA b i tu ps, ρ => match evSs n b ρ with
    | .exc c ρ' => trySuite i tu ps c ρ'
    | o => o
termination_by structural m => m
def evSs (n : Nat) : List MS → EvS
  | [], ρ => .ok (.nx, ρ)
  | m :: ms, ρ => (evS n m ρ).bind fun r => match r.1 with
    | .nx => evSs n ms r.2
    | .ret v => .ok (.ret v, r.2)
termination_by structural m => m
end
end NV

/-! NV.B: what data a value denotes; the relation between names' data and the machine's state. -/
namespace NV
open PySem PySem.Spec PyProof.Rows L2

abbrev St := L2.St
structure Ct where
  P : Program
  w : World
  K : PySem.W.Frag
  mg : Str → Option Value
abbrev ctx (X : Cx) : Ct := ⟨X.prog, X.w, X.K, X.mg⟩

/-- the fields of a class in the order in which they are made -/
def flds (c : String) : List Str :=
  if c = "Machine" then ["alphabet", "size", "begun", "over", "rows"] else []
mutual
def keyOf : D → Option NestedKey
  | .non => some .none
  | .int i => some (.num i)
  | .str s => some (.text ⟨s.toArray⟩)
  | .tup l => (keysOf l).map .tup
  | .bl _ => none | .lst _ => none | .dic _ _ => none | .obj _ _ => none | .scr _ => none | .adr _ => none
def keysOf : List D → Option (List NestedKey)
  | [] => some []
  | x :: l => match keyOf x, keysOf l with
    | some k, some ks => some (k :: ks)
    | _, _ => none
end
/-- a dict with tuple keys: each key, the place of its tuple, its value -/
def dHO (c : Ct) (a : Addr) (xs : List (NestedKey × Addr × V)) : HO := .ext fun h =>
  (a == sysModules) = false ∧ xs.length ≤ sizeLine ∧ (xs.map (·.1)).Nodup ∧ ∃ ys : List (NestedKey × Addr × Value), Paired (fun (p : NestedKey × Addr × V) (q : NestedKey × Addr × Value) => p.1 = q.1 ∧ p.2.1 = q.2.1 ∧ RelV p.2.2 q.2.2) xs ys ∧
    ∃ o es ep, h.get? a = some o ∧ o.ExactDict ∧ o.data = .dict es ep ∧ es.toList = ys.map (entryOfKey (nestedKind c.P c.w))
def strGood (s : List Nat) : Prop := s.length ≤ 16777216 ∧ ∀ x ∈ s, x < 0x110000
mutual
def Den (c : Ct) (H : Hp) : D → V → Prop
  | .non, v => v = .non
  | .bl b, v => v = .bl b
  | .int i, v => v = .int i
  | .str s, v => v = .str ⟨s.toArray⟩ ∧ strGood s
  | .tup l, v => ∃ a vs, v = .ref a ∧ SqT c.K H a vs ∧ Dens c H l vs
  | .lst l, v => ∃ a vs, v = .ref a ∧ H a = some (.lst vs) ∧ Dens c H l vs
  | .dic ks ds, v => ∃ a xs, v = .ref a ∧ H a = some (dHO c a xs) ∧ (keysOf ks = some (xs.map (·.1)) ∧ ks.all D.tkey = true) ∧ Dens c H ks (xs.map fun x => V.ref x.2.1) ∧ Dens c H ds (xs.map (·.2.2))
  | .obj n l, v => ∃ a C dx fs, v = .ref a ∧ c.mg (Str.ofString n) = some (.ref C) ∧ H a = some (.ins C dx fs) ∧ fs.map (·.1) = flds n ∧ Dens c H l (fs.map (·.2))
  | .scr l, v => ∃ a, v = .ref a ∧ SqL c.K H a (l.map V.int)
  | .adr a, v => v = .ref a
termination_by structural d => d
def Dens (c : Ct) (H : Hp) : List D → List V → Prop
  | [], vs => vs = []
  | d :: ds, vs => ∃ v r, vs = v :: r ∧ Den c H d v ∧ Dens c H ds r
termination_by structural ds => ds
end
section
variable {c : Ct} {H H' Hf Hf' : Hp}
theorem Dens.nil_iff {vs : List V} : Dens c H [] vs ↔ vs = [] := by simp [Dens]
theorem Dens.cons_iff {d : D} {ds : List D} {v : V} {vs : List V} : Dens c H (d :: ds) (v :: vs) ↔ Den c H d v ∧ Dens c H ds vs := by
  constructor
  · rintro ⟨v', r, e, h1, h2⟩
    cases e
    exact ⟨h1, h2⟩
  · rintro ⟨h1, h2⟩
    exact ⟨v, vs, rfl, h1, h2⟩
theorem Same.seqT {K : PySem.W.Frag} {a : Addr} {xs : List V} (e : Same H H') (h : SqT K H a xs) : SqT K H' a xs := by
  rcases h with (h | ⟨o, h⟩) | h
  · exact .inl (.inl (e _ _ h))
  · exact .inl (.inr ⟨o, e _ _ h⟩)
  · exact .inr h
mutual
theorem Den.mono (e : Same H H') : ∀ (d : D) (v : V), Den c H d v → Den c H' d v
  | .non, _, h => h
  | .bl _, _, h => h
  | .int _, _, h => h
  | .str _, _, h => h
  | .tup l, _, ⟨a, vs, q, h1, h2⟩ => ⟨a, vs, q, Same.seqT e h1, Dens.mono e l vs h2⟩
  | .lst l, _, ⟨a, vs, q, h1, h2⟩ => ⟨a, vs, q, e _ _ h1, Dens.mono e l vs h2⟩
  | .dic ks ds, _, ⟨a, xs, q, h1, h2, h3, h4⟩ => ⟨a, xs, q, e _ _ h1, h2, Dens.mono e ks _ h3, Dens.mono e ds _ h4⟩
  | .obj n l, _, ⟨a, C, dx, fs, q, h1, h2, h3, h4⟩ => ⟨a, C, dx, fs, q, h1, e _ _ h2, h3, Dens.mono e l _ h4⟩
  | .scr l, _, ⟨a, q, h⟩ => ⟨a, q, L2.Same.seq e h⟩
  | .adr _, _, h => h
termination_by structural d => d
theorem Dens.mono (e : Same H H') : ∀ (ds : List D) (vs : List V), Dens c H ds vs → Dens c H' ds vs
  | [], _, h => h
  | d :: ds, _, ⟨v, r, q, h1, h2⟩ => ⟨v, r, q, Den.mono e d v h1, Dens.mono e ds r h2⟩
termination_by structural ds => ds
end
theorem Dens.length : ∀ {ds : List D} {vs : List V}, Dens c H ds vs → ds.length = vs.length
  | [], vs, h => by cases h; rfl
  | d :: ds, vs, h => by
    obtain ⟨v, r, rfl, _, h2⟩ := h
    simp [Dens.length h2]
theorem Dens.get : ∀ {ds : List D} {vs : List V} {i : Nat} {d : D}, Dens c H ds vs → ds[i]? = some d → ∃ v, vs[i]? = some v ∧ Den c H d v
  | [], _, _, _, _, e => by simp at e
  | d' :: ds, vs, 0, d, h, e => by
    obtain ⟨v, r, rfl, h1, h2⟩ := h
    simp at e
    subst e
    exact ⟨v, rfl, h1⟩
  | d' :: ds, vs, i + 1, d, h, e => by
    obtain ⟨v, r, rfl, h1, h2⟩ := h
    obtain ⟨v', q1, q2⟩ := Dens.get (i := i) h2 (by simpa using e)
    exact ⟨v', by simpa using q1, q2⟩
theorem Dens.getV : ∀ {ds : List D} {vs : List V} {i : Nat} {v : V}, Dens c H ds vs → vs[i]? = some v → ∃ d, ds[i]? = some d ∧ Den c H d v
  | [], vs, _, _, h, e => by
    cases h
    simp at e
  | d' :: ds, vs, 0, v', h, e => by
    obtain ⟨v, r, rfl, h1, h2⟩ := h
    simp at e
    subst e
    exact ⟨d', rfl, h1⟩
  | d' :: ds, vs, i + 1, v', h, e => by
    obtain ⟨v, r, rfl, h1, h2⟩ := h
    obtain ⟨d, q1, q2⟩ := Dens.getV (i := i) h2 (by simpa using e)
    exact ⟨d, by simpa using q1, q2⟩
theorem Dens.append : ∀ {ds ds' : List D} {vs vs' : List V}, Dens c H ds vs → Dens c H ds' vs' → Dens c H (ds ++ ds') (vs ++ vs')
  | [], _, _, _, h, h' => by
    cases h
    exact h'
  | d :: ds, _, _, _, h, h' => by
    obtain ⟨v, r, rfl, h1, h2⟩ := h
    exact ⟨v, _, rfl, h1, Dens.append h2 h'⟩
theorem Dens.one {d : D} {v : V} (h : Den c H d v) : Dens c H [d] [v] := ⟨v, [], rfl, h, rfl⟩
theorem Dens.take : ∀ (n : Nat) {ds : List D} {vs : List V}, Dens c H ds vs → Dens c H (ds.take n) (vs.take n)
  | 0, _, _, _ => rfl
  | n + 1, [], _, h => by
    cases h
    rfl
  | n + 1, d :: ds, _, h => by
    obtain ⟨v, r, rfl, h1, h2⟩ := h
    exact ⟨v, _, rfl, h1, Dens.take n h2⟩
theorem Dens.drop : ∀ (n : Nat) {ds : List D} {vs : List V}, Dens c H ds vs → Dens c H (ds.drop n) (vs.drop n)
  | 0, _, _, h => h
  | n + 1, [], _, h => by
    cases h
    rfl
  | n + 1, d :: ds, _, h => by
    obtain ⟨v, r, rfl, h1, h2⟩ := h
    exact Dens.drop n h2
theorem Dens.set : ∀ (i : Nat) {ds : List D} {vs : List V} {d : D} {v : V}, Dens c H ds vs → Den c H d v → Dens c H (ds.set i d) (vs.set i v)
  | _, [], _, _, _, h, _ => by
    cases h
    rfl
  | 0, d :: ds, _, _, _, h, hd => by
    obtain ⟨v, r, rfl, h1, h2⟩ := h
    exact ⟨_, _, rfl, hd, h2⟩
  | i + 1, d :: ds, _, _, _, h, hd => by
    obtain ⟨v, r, rfl, h1, h2⟩ := h
    exact ⟨_, _, rfl, h1, Dens.set i h2 hd⟩
theorem Dens.reverse : ∀ {ds : List D} {vs : List V}, Dens c H ds vs → Dens c H ds.reverse vs.reverse
  | [], _, h => by
    cases h
    rfl
  | d :: ds, _, h => by
    obtain ⟨v, r, rfl, h1, h2⟩ := h
    rw [List.reverse_cons, List.reverse_cons]
    exact Dens.append (Dens.reverse h2) (Dens.one h1)
end

/-- a container at a that is not frozen; its items are -/
def Own (c : Ct) (Hf H : Hp) (d : D) (a : Addr) : Prop := Hf a = none ∧ match d with
  | .lst l => ∃ vs, H a = some (.lst vs) ∧ Dens c Hf l vs
  | .dic ks ds => ∃ xs, H a = some (dHO c a xs) ∧ (keysOf ks = some (xs.map (·.1)) ∧ ks.all D.tkey = true) ∧ Dens c Hf ks (xs.map fun x => V.ref x.2.1) ∧ Dens c Hf ds (xs.map (·.2.2))
  | _ => False
/-- what a value shows at its top, frozen or not -/
def Top (c : Ct) (Hf H : Hp) (d : D) (v : V) : Prop := match d with
  | .lst l => ∃ a vs, v = .ref a ∧ H a = some (.lst vs) ∧ Dens c Hf l vs
  | .dic ks ds => ∃ a xs, v = .ref a ∧ H a = some (dHO c a xs) ∧ (keysOf ks = some (xs.map (·.1)) ∧ ks.all D.tkey = true) ∧ Dens c Hf ks (xs.map fun x => V.ref x.2.1) ∧ Dens c Hf ds (xs.map (·.2.2))
  | d => Den c Hf d v
section
variable {c : Ct} {H H' Hf Hf' : Hp} {d : D} {v : V} {a : Addr}
theorem Top.of_den (s : Same Hf H) (h : Den c Hf d v) : Top c Hf H d v := by
  cases d with
  | lst l =>
    obtain ⟨a, vs, q, h1, h2⟩ := h
    exact ⟨a, vs, q, s _ _ h1, h2⟩
  | dic ks ds =>
    obtain ⟨a, xs, q, h1, h2⟩ := h
    exact ⟨a, xs, q, s _ _ h1, h2⟩
  | _ => exact h
theorem Top.of_own (h : Own c Hf H d a) : Top c Hf H d (.ref a) := by
  obtain ⟨_, h⟩ := h
  cases d with
  | lst l =>
    obtain ⟨vs, h1, h2⟩ := h
    exact ⟨a, vs, rfl, h1, h2⟩
  | dic ks ds =>
    obtain ⟨xs, h1, h2⟩ := h
    exact ⟨a, xs, rfl, h1, h2⟩
  | _ => exact h.elim
theorem Own.there (h : Own c Hf H d a) : ∃ o, H a = some o := by
  obtain ⟨_, h⟩ := h
  cases d with
  | lst l =>
    obtain ⟨vs, h1, h2⟩ := h
    exact ⟨_, h1⟩
  | dic ks ds =>
    obtain ⟨xs, h1, h2⟩ := h
    exact ⟨_, h1⟩
  | _ => exact h.elim
/-- it stays while it stands and the frozen part grows elsewhere -/
theorem Own.keep (h : Own c Hf H d a) (s : Same Hf Hf') (hn : Hf' a = none) (ha : ∀ o, H a = some o → H' a = some o) : Own c Hf' H' d a := by
  obtain ⟨h0, h⟩ := h
  refine ⟨hn, ?_⟩
  cases d with
  | lst l =>
    obtain ⟨vs, h1, h2⟩ := h
    exact ⟨vs, ha _ h1, Dens.mono s _ _ h2⟩
  | dic ks ds =>
    obtain ⟨xs, h1, h2, h3, h4⟩ := h
    exact ⟨xs, ha _ h1, h2, Dens.mono s _ _ h3, Dens.mono s _ _ h4⟩
  | _ => exact h.elim
/-- frozen -/
theorem Own.freeze (h : Own c Hf H d a) {o : HO} (ho : H a = some o) : Den c (upd Hf a o) d (.ref a) := by
  obtain ⟨h0, h⟩ := h
  have s : Same Hf (upd Hf a o) := fun b u e => by rw [upd_ne (ne_of_none e h0)]; exact e
  cases d with
  | lst l =>
    obtain ⟨vs, h1, h2⟩ := h
    rw [ho] at h1
    cases h1
    exact ⟨a, vs, rfl, upd_same, Dens.mono s _ _ h2⟩
  | dic ks ds =>
    obtain ⟨xs, h1, h2, h3, h4⟩ := h
    rw [ho] at h1
    cases h1
    exact ⟨a, xs, rfl, upd_same, h2, Dens.mono s _ _ h3, Dens.mono s _ _ h4⟩
  | _ => exact h.elim
end

/-- the frame of a piece of code: the heap and its frozen part ahead of it, what may be written, the pinned names (none: io; some d: read only) -/
structure Fr where
  H0 : Hp
  F0 : Hp
  Mu : Addr → Prop
  L : Nat → Addr → Option D → Prop
  G : Addr → Option HO
def Ent.own? : Ent → Option D
  | .ow d => some d
  | .io d => some d
  | .br d => some d
  | _ => none
/-- slot i holds the own container at a -/
def OwnAt (ρ : Rho) (σ : St) (i : Nat) (a : Addr) : Prop := ∃ e d, ρ[i]? = some e ∧ e.own? = some d ∧ σ[i]? = some (some (.ref a))
structure R (c : Ct) (F : Fr) (ρ : Rho) (σ : St) (H Hf : Hp) : Prop where
  len : ρ.length = σ.length
  sub : Same Hf H
  subf : Same F.F0 Hf
  live : ∀ a o, F.H0 a = some o → ∃ o', H a = some o'
  keep : ∀ a o, F.H0 a = some o → ¬ F.Mu a → H a = some o
  out : ∀ a o, F.H0 a = some o → F.F0 a = none → Hf a = none
  im : ∀ (i : Nat) (d : D), ρ[i]? = some (.im d) → ∃ v, σ[i]? = some (some v) ∧ Den c Hf d v
  own : ∀ (i : Nat) (e : Ent) (d : D), ρ[i]? = some e → e.own? = some d → ∃ a, σ[i]? = some (some (.ref a)) ∧ Own c Hf H d a
  dist : ∀ (i j : Nat) (a : Addr), OwnAt ρ σ i a → OwnAt ρ σ j a → i = j
  ow : ∀ (i : Nat) (d : D) (a : Addr), ρ[i]? = some (.ow d) → σ[i]? = some (some (.ref a)) → F.H0 a = none
  io : ∀ (i : Nat) (d : D) (a : Addr), ρ[i]? = some (.io d) → σ[i]? = some (some (.ref a)) → F.Mu a
  pin : ∀ i a o, F.L i a o → σ[i]? = some (some (.ref a)) ∧ ∃ e, ρ[i]? = some e ∧ match o with
    | none => ∃ d, e = .io d
    | some d => e = .br d
  brL : ∀ (i : Nat) (d : D), ρ[i]? = some (.br d) → ∃ a, F.L i a (some d)
  grd : ∀ a o, F.G a = some o → H a = some o ∧ Hf a = none ∧ ∀ i, ¬ OwnAt ρ σ i a
section
variable {c : Ct} {F : Fr} {ρ : Rho} {σ : St} {H H' Hf : Hp} {a : Addr} {o : HO} {d : D} {v : V} {i : Nat}
theorem R.free (r : R c F ρ σ H Hf) (h : H a = none) : Hf a = none ∧ F.H0 a = none := by
  constructor
  · cases q : Hf a with
    | none => rfl
    | some o => rw [r.sub _ _ q] at h; cases h
  · cases q : F.H0 a with
    | none => rfl
    | some o =>
      obtain ⟨o', e⟩ := r.live _ _ q
      rw [e] at h
      cases h
theorem same_upd {H : Hp} {p : Addr} {o : HO} (h : H p = none) : Same H (upd H p o) := fun b x e => by
  rw [upd_ne (ne_of_none e h)]
  exact e
/-- the own container's place is no new one -/
theorem R.own_ne (r : R c F ρ σ H Hf) {b : Addr} (h : OwnAt ρ σ i b) (hn : H a = none) : b ≠ a := by
  obtain ⟨e, d, h1, h2, h3⟩ := h
  obtain ⟨a', q1, q2⟩ := r.own i e d h1 h2
  rw [h3] at q1
  cases q1
  obtain ⟨o, ho⟩ := q2.there
  exact ne_of_none ho hn
/-- a new object, frozen at once -/
theorem R.alloc (r : R c F ρ σ H Hf) (hn : H a = none) (o : HO) : R c F ρ σ (upd H a o) (upd Hf a o) ∧ Same Hf (upd Hf a o) := by
  obtain ⟨f1, f2⟩ := r.free hn
  have s1 := same_upd (o := o) f1
  refine ⟨⟨r.len, fun b u e => ?_, r.subf.trans s1, fun b u e => ?_, fun b u e m => ?_, fun b u e e2 => ?_, fun i d e => ?_, fun i e d h1 h2 => ?_, r.dist, r.ow, r.io, r.pin, r.brL, fun b u q => ?_⟩, s1⟩
  rotate_right
  · obtain ⟨q1, q2, q3⟩ := r.grd b u q
    have hb : b ≠ a := ne_of_none q1 hn
    exact ⟨by rw [upd_ne hb]; exact q1, by rw [upd_ne hb]; exact q2, q3⟩
  · by_cases hb : b = a
    · subst hb
      rw [upd_same] at e ⊢
      exact e
    · rw [upd_ne hb] at e ⊢
      exact r.sub _ _ e
  · have hb : b ≠ a := ne_of_none e f2
    rw [upd_ne hb]
    exact r.live _ _ e
  · rw [upd_ne (ne_of_none e f2)]
    exact r.keep _ _ e m
  · rw [upd_ne (ne_of_none e f2)]
    exact r.out _ _ e e2
  · obtain ⟨v, h1, h2⟩ := r.im i d e
    exact ⟨v, h1, Den.mono s1 _ _ h2⟩
  · obtain ⟨b, q1, q2⟩ := r.own i e d h1 h2
    have hb : b ≠ a := r.own_ne ⟨e, d, h1, h2, q1⟩ hn
    exact ⟨b, q1, q2.keep s1 (by rw [upd_ne hb]; exact q2.1) fun u hu => by rw [upd_ne hb]; exact hu⟩
/-- a new object that is not frozen -/
theorem R.allocOwn (r : R c F ρ σ H Hf) (hn : H a = none) (o : HO) : R c F ρ σ (upd H a o) Hf := by
  obtain ⟨f1, f2⟩ := r.free hn
  refine ⟨r.len, fun b u e => ?_, r.subf, fun b u e => ?_, fun b u e m => ?_, r.out, r.im, fun i e d h1 h2 => ?_, r.dist, r.ow, r.io, r.pin, r.brL, fun b u q => ?_⟩
  rotate_right
  · obtain ⟨q1, q2, q3⟩ := r.grd b u q
    have hb : b ≠ a := ne_of_none q1 hn
    exact ⟨by rw [upd_ne hb]; exact q1, q2, q3⟩
  · rw [upd_ne (ne_of_none e f1)]
    exact r.sub _ _ e
  · rw [upd_ne (ne_of_none e f2)]
    exact r.live _ _ e
  · rw [upd_ne (ne_of_none e f2)]
    exact r.keep _ _ e m
  · obtain ⟨b, q1, q2⟩ := r.own i e d h1 h2
    have hb : b ≠ a := r.own_ne ⟨e, d, h1, h2, q1⟩ hn
    exact ⟨b, q1, q2.keep (Same.refl _) q2.1 fun u hu => by rw [upd_ne hb]; exact hu⟩
/-- a container that is of no name is frozen -/
theorem R.freeze (r : R c F ρ σ H Hf) (w : Own c Hf H d a) (h0 : F.H0 a = none) (hu : ∀ i, ¬ OwnAt ρ σ i a) (hg : F.G a = none) :
    ∃ Hf', R c F ρ σ H Hf' ∧ Same Hf Hf' ∧ Den c Hf' d (.ref a) := by
  obtain ⟨o, ho⟩ := w.there
  have s1 := same_upd (o := o) w.1
  refine ⟨upd Hf a o, ⟨r.len, fun b u e => ?_, r.subf.trans s1, r.live, r.keep, fun b u e e2 => ?_, fun i d e => ?_, fun i e d h1 h2 => ?_, r.dist, r.ow, r.io, r.pin, r.brL, fun b u q => ?_⟩, s1, w.freeze ho⟩
  rotate_right
  · obtain ⟨q1, q2, q3⟩ := r.grd b u q
    have hb : b ≠ a := fun z => by rw [z, hg] at q; cases q
    exact ⟨q1, by rw [upd_ne hb]; exact q2, q3⟩
  · by_cases hb : b = a
    · subst hb
      rw [upd_same] at e
      cases e
      exact ho
    · rw [upd_ne hb] at e
      exact r.sub _ _ e
  · rw [upd_ne (ne_of_none e h0)]
    exact r.out _ _ e e2
  · obtain ⟨v, h1, h2⟩ := r.im i d e
    exact ⟨v, h1, Den.mono s1 _ _ h2⟩
  · obtain ⟨b, q1, q2⟩ := r.own i e d h1 h2
    have hb : b ≠ a := fun z => hu i ⟨e, d, h1, h2, by rw [← z]; exact q1⟩
    exact ⟨b, q1, q2.keep s1 (by rw [upd_ne hb]; exact q2.1) fun u hu => hu⟩
theorem get_set {α : Type} {l : List α} {i j : Nat} {x y : α} (h : (l.set i x)[j]? = some y) : (i = j ∧ y = x ∧ i < l.length) ∨ (i ≠ j ∧ l[j]? = some y) := by
  by_cases e : i = j
  · subst e
    by_cases hl : i < l.length
    · rw [List.getElem?_set_self hl] at h
      cases h
      exact .inl ⟨rfl, rfl, hl⟩
    · rw [List.getElem?_eq_none (by simpa using hl)] at h
      cases h
  · rw [List.getElem?_set_ne e] at h
    exact .inr ⟨e, h⟩
theorem lt_of_get {α : Type} {l : List α} {i : Nat} {x : α} (h : l[i]? = some x) : i < l.length := (List.getElem?_eq_some_iff.mp h).1
theorem setE_some {ρ ρ' : Rho} {i : Nat} {e : Ent} (h : setE ρ i e = some ρ') : ρ' = ρ.set i e ∧ i < ρ.length ∧ ∃ e0, ρ[i]? = some e0 ∧ (e0 = .un ∨ (∃ d, e0 = .im d) ∨ ∃ d, e0 = .ow d) := by
  unfold setE at h
  cases q : ρ[i]? with
  | none => rw [q] at h; cases h
  | some e0 =>
    rw [q] at h
    cases e0 with
    | un => cases h; exact ⟨rfl, lt_of_get q, _, rfl, .inl rfl⟩
    | im d => cases h; exact ⟨rfl, lt_of_get q, _, rfl, .inr (.inl ⟨d, rfl⟩)⟩
    | ow d => cases h; exact ⟨rfl, lt_of_get q, _, rfl, .inr (.inr ⟨d, rfl⟩)⟩
    | io d => cases h
    | br d => cases h
theorem R.nopin (r : R c F ρ σ H Hf) {e0 : Ent} (h : ρ[i]? = some e0) (h0 : e0 = .un ∨ (∃ d, e0 = .im d) ∨ ∃ d, e0 = .ow d) : ∀ j a o, F.L j a o → j ≠ i := fun j a o hp z => by
  obtain ⟨_, e, h1, h2⟩ := r.pin j a o hp
  rw [z, h] at h1
  cases h1
  split at h2
  · obtain ⟨d, rfl⟩ := h2
    rcases h0 with h0 | ⟨_, h0⟩ | ⟨_, h0⟩ <;> cases h0
  · subst h2
    rcases h0 with h0 | ⟨_, h0⟩ | ⟨_, h0⟩ <;> cases h0
/-- a slot is set to frozen data -/
theorem R.setIm (r : R c F ρ σ H Hf) {ρ' : Rho} (h : setE ρ i (.im d) = some ρ') (hd : Den c Hf d v) : R c F ρ' (σ.set i (some v)) H Hf := by
  obtain ⟨rfl, hl, e0, he0, hk⟩ := setE_some h
  have np := r.nopin he0 hk
  have hs : i < σ.length := by rw [← r.len]; exact hl
  have ownAt : ∀ j b, OwnAt (ρ.set i (.im d)) (σ.set i (some v)) j b → j ≠ i ∧ OwnAt ρ σ j b := fun j b ⟨e, d', h1, h2, h3⟩ => by
    rcases get_set h1 with ⟨rfl, rfl, _⟩ | ⟨hn, h1⟩
    · cases h2
    · rw [List.getElem?_set_ne hn] at h3
      exact ⟨Ne.symm hn, e, d', h1, h2, h3⟩
  refine ⟨by simp [r.len], r.sub, r.subf, r.live, r.keep, r.out, fun j d' e => ?_, fun j e d' h1 h2 => ?_, fun j k b h1 h2 => r.dist j k b (ownAt _ _ h1).2 (ownAt _ _ h2).2, fun j d' b h1 h2 => ?_, fun j d' b h1 h2 => ?_, fun j b o hp => ?_, fun j d' e => ?_, fun b u q => ?_⟩
  rotate_right 2
  · rcases get_set e with ⟨rfl, e, _⟩ | ⟨hn, e⟩
    · cases e
    · exact r.brL j d' e
  · obtain ⟨q1, q2, q3⟩ := r.grd b u q
    exact ⟨q1, q2, fun i w => q3 i (ownAt _ _ w).2⟩
  · rcases get_set e with ⟨rfl, e, _⟩ | ⟨hn, e⟩
    · cases e
      exact ⟨v, List.getElem?_set_self hs, hd⟩
    · rw [List.getElem?_set_ne hn]
      exact r.im j d' e
  · rcases get_set h1 with ⟨rfl, rfl, _⟩ | ⟨hn, h1⟩
    · cases h2
    · rw [List.getElem?_set_ne hn]
      exact r.own j e d' h1 h2
  · rcases get_set h1 with ⟨rfl, e, _⟩ | ⟨hn, h1⟩
    · cases e
    · rw [List.getElem?_set_ne hn] at h2
      exact r.ow j d' b h1 h2
  · rcases get_set h1 with ⟨rfl, e, _⟩ | ⟨hn, h1⟩
    · cases e
    · rw [List.getElem?_set_ne hn] at h2
      exact r.io j d' b h1 h2
  · obtain ⟨h1, e, h2, h3⟩ := r.pin j b o hp
    have hn := Ne.symm (np j b o hp)
    rw [List.getElem?_set_ne hn, List.getElem?_set_ne hn]
    exact ⟨h1, e, h2, h3⟩
/-- a slot is set to a new own container -/
theorem R.setOw (r : R c F ρ σ H Hf) {ρ' : Rho} (h : setE ρ i (.ow d) = some ρ') (hd : Own c Hf H d a) (h0 : F.H0 a = none) (hu : ∀ j, ¬ OwnAt ρ σ j a) (hg : F.G a = none) : R c F ρ' (σ.set i (some (.ref a))) H Hf := by
  obtain ⟨rfl, hl, e0, he0, hk⟩ := setE_some h
  have np := r.nopin he0 hk
  have hs : i < σ.length := by rw [← r.len]; exact hl
  have ownAt : ∀ j b, OwnAt (ρ.set i (.ow d)) (σ.set i (some (.ref a))) j b → (j = i ∧ b = a) ∨ (j ≠ i ∧ OwnAt ρ σ j b) := fun j b ⟨e, d', h1, h2, h3⟩ => by
    rcases get_set h1 with ⟨rfl, rfl, _⟩ | ⟨hn, h1⟩
    · rw [List.getElem?_set_self hs] at h3
      cases h3
      exact .inl ⟨rfl, rfl⟩
    · rw [List.getElem?_set_ne hn] at h3
      exact .inr ⟨Ne.symm hn, e, d', h1, h2, h3⟩
  refine ⟨by simp [r.len], r.sub, r.subf, r.live, r.keep, r.out, fun j d' e => ?_, fun j e d' h1 h2 => ?_, fun j k b h1 h2 => ?_, fun j d' b h1 h2 => ?_, fun j d' b h1 h2 => ?_, fun j b o hp => ?_, fun j d' e => ?_, fun b u q => ?_⟩
  rotate_right 2
  · rcases get_set e with ⟨rfl, e, _⟩ | ⟨hn, e⟩
    · cases e
    · exact r.brL j d' e
  · obtain ⟨q1, q2, q3⟩ := r.grd b u q
    refine ⟨q1, q2, fun i w => ?_⟩
    rcases ownAt _ _ w with ⟨_, rfl⟩ | ⟨_, w⟩
    · rw [hg] at q
      cases q
    · exact q3 i w
  · rcases get_set e with ⟨rfl, e, _⟩ | ⟨hn, e⟩
    · cases e
    · rw [List.getElem?_set_ne hn]
      exact r.im j d' e
  · rcases get_set h1 with ⟨rfl, rfl, _⟩ | ⟨hn, h1⟩
    · cases h2
      exact ⟨a, List.getElem?_set_self hs, hd⟩
    · rw [List.getElem?_set_ne hn]
      exact r.own j e d' h1 h2
  · rcases ownAt _ _ h1 with ⟨rfl, rfl⟩ | ⟨n1, o1⟩ <;> rcases ownAt _ _ h2 with ⟨e1, e2⟩ | ⟨n2, o2⟩
    · exact e1.symm
    · exact (hu _ o2).elim
    · subst e2
      exact (hu _ o1).elim
    · exact r.dist _ _ _ o1 o2
  · rcases get_set h1 with ⟨rfl, e, _⟩ | ⟨hn, h1⟩
    · rw [List.getElem?_set_self hs] at h2
      cases h2
      exact h0
    · rw [List.getElem?_set_ne hn] at h2
      exact r.ow j d' b h1 h2
  · rcases get_set h1 with ⟨rfl, e, _⟩ | ⟨hn, h1⟩
    · cases e
    · rw [List.getElem?_set_ne hn] at h2
      exact r.io j d' b h1 h2
  · obtain ⟨h1, e, h2, h3⟩ := r.pin j b o hp
    have hn := Ne.symm (np j b o hp)
    rw [List.getElem?_set_ne hn, List.getElem?_set_ne hn]
    exact ⟨h1, e, h2, h3⟩
/-- a slot is wiped -/
theorem R.setUn (r : R c F ρ σ H Hf) {ρ' : Rho} {x : Option V} (h : setE ρ i .un = some ρ') : R c F ρ' (σ.set i x) H Hf := by
  obtain ⟨rfl, hl, e0, he0, hk⟩ := setE_some h
  have np := r.nopin he0 hk
  have hs : i < σ.length := by rw [← r.len]; exact hl
  have ownAt : ∀ j b, OwnAt (ρ.set i .un) (σ.set i x) j b → j ≠ i ∧ OwnAt ρ σ j b := fun j b ⟨e, d', h1, h2, h3⟩ => by
    rcases get_set h1 with ⟨rfl, rfl, _⟩ | ⟨hn, h1⟩
    · cases h2
    · rw [List.getElem?_set_ne hn] at h3
      exact ⟨Ne.symm hn, e, d', h1, h2, h3⟩
  refine ⟨by simp [r.len], r.sub, r.subf, r.live, r.keep, r.out, fun j d' e => ?_, fun j e d' h1 h2 => ?_, fun j k b h1 h2 => r.dist j k b (ownAt _ _ h1).2 (ownAt _ _ h2).2, fun j d' b h1 h2 => ?_, fun j d' b h1 h2 => ?_, fun j b o hp => ?_, fun j d' e => ?_, fun b u q => ?_⟩
  rotate_right 2
  · rcases get_set e with ⟨rfl, e, _⟩ | ⟨hn, e⟩
    · cases e
    · exact r.brL j d' e
  · obtain ⟨q1, q2, q3⟩ := r.grd b u q
    exact ⟨q1, q2, fun i w => q3 i (ownAt _ _ w).2⟩
  · rcases get_set e with ⟨rfl, e, _⟩ | ⟨hn, e⟩
    · cases e
    · rw [List.getElem?_set_ne hn]
      exact r.im j d' e
  · rcases get_set h1 with ⟨rfl, rfl, _⟩ | ⟨hn, h1⟩
    · cases h2
    · rw [List.getElem?_set_ne hn]
      exact r.own j e d' h1 h2
  · rcases get_set h1 with ⟨rfl, e, _⟩ | ⟨hn, h1⟩
    · cases e
    · rw [List.getElem?_set_ne hn] at h2
      exact r.ow j d' b h1 h2
  · rcases get_set h1 with ⟨rfl, e, _⟩ | ⟨hn, h1⟩
    · cases e
    · rw [List.getElem?_set_ne hn] at h2
      exact r.io j d' b h1 h2
  · obtain ⟨h1, e, h2, h3⟩ := r.pin j b o hp
    have hn := Ne.symm (np j b o hp)
    rw [List.getElem?_set_ne hn, List.getElem?_set_ne hn]
    exact ⟨h1, e, h2, h3⟩
/-- an own name's container is frozen for good -/
theorem R.freezeSlot (r : R c F ρ σ H Hf) (h : ρ[i]? = some (.ow d)) : ∃ Hf' v, R c F (ρ.set i (.im d)) σ H Hf' ∧ Same Hf Hf' ∧ σ[i]? = some (some v) ∧ Den c Hf' d v := by
  obtain ⟨a, q1, q2⟩ := r.own i _ d h rfl
  have h0 := r.ow i d a h q1
  have hs : setE ρ i .un = some (ρ.set i .un) := by unfold setE; rw [h]
  have r1 : R c F (ρ.set i .un) σ H Hf := by
    have := r.setUn (x := some (.ref a)) hs
    have e : σ.set i (some (.ref a)) = σ := by
      apply List.ext_getElem?
      intro j
      by_cases e : i = j
      · subst e
        rw [List.getElem?_set_self (lt_of_get q1), q1]
      · rw [List.getElem?_set_ne e]
    rw [e] at this
    exact this
  have hu : ∀ j, ¬ OwnAt (ρ.set i .un) σ j a := fun j ⟨e, d', h1, h2, h3⟩ => by
    rcases get_set h1 with ⟨rfl, rfl, _⟩ | ⟨hn, h1⟩
    · cases h2
    · exact hn (r.dist i j a ⟨_, d, h, rfl, q1⟩ ⟨e, d', h1, h2, h3⟩)
  have hg : F.G a = none := by
    cases z : F.G a with
    | none => rfl
    | some u => exact ((r.grd a u z).2.2 i ⟨_, d, h, rfl, q1⟩).elim
  obtain ⟨Hf', r2, s, dn⟩ := r1.freeze q2 h0 hu hg
  refine ⟨Hf', _, ?_, s, q1, dn⟩
  have hs2 : setE (ρ.set i .un) i (.im d) = some ((ρ.set i .un).set i (.im d)) := by
    unfold setE
    rw [List.getElem?_set_self (lt_of_get h)]
  have r3 := r2.setIm (v := .ref a) hs2 dn
  rw [List.set_set] at r3
  have e : σ.set i (some (.ref a)) = σ := by
    apply List.ext_getElem?
    intro j
    by_cases e : i = j
    · subst e
      rw [List.getElem?_set_self (lt_of_get q1), q1]
    · rw [List.getElem?_set_ne e]
  rw [e] at r3
  exact r3
/-- an own container is written -/
theorem R.mut (r : R c F ρ σ H Hf) {e e' : Ent} {d' : D} (h : ρ[i]? = some e) (hd : e.own? = some d) (hs : σ[i]? = some (some (.ref a))) (hk : (e = .ow d ∧ e' = .ow d') ∨ (e = .io d ∧ e' = .io d'))
    (w : Own c Hf (upd H a o) d' a) : R c F (ρ.set i e') σ (upd H a o) Hf := by
  obtain ⟨a', q1, q2⟩ := r.own i e d h hd
  rw [hs] at q1
  cases q1
  have hl := lt_of_get h
  have hd' : e'.own? = some d' := by rcases hk with ⟨_, rfl⟩ | ⟨_, rfl⟩ <;> rfl
  have hm : ∀ u, F.H0 a = some u → F.Mu a := fun u q => by
    rcases hk with ⟨rfl, _⟩ | ⟨rfl, _⟩
    · rw [r.ow i d a h hs] at q
      cases q
    · exact r.io i d a h hs
  have ownAt : ∀ j b, OwnAt (ρ.set i e') σ j b → OwnAt ρ σ j b := fun j b ⟨e, d', h1, h2, h3⟩ => by
    rcases get_set h1 with ⟨rfl, rfl, _⟩ | ⟨hn, h1⟩
    · exact ⟨_, d, h, hd, h3⟩
    · exact ⟨e, d', h1, h2, h3⟩
  have ne : ∀ j b, j ≠ i → OwnAt ρ σ j b → b ≠ a := fun j b hj w' z => hj (r.dist j i a (z ▸ w') ⟨_, d, h, hd, hs⟩)
  refine ⟨by simp [r.len], fun b u q => ?_, r.subf, fun b u q => ?_, fun b u q m => ?_, r.out, fun j d2 q => ?_, fun j e2 d2 h1 h2 => ?_, fun j k b h1 h2 => r.dist j k b (ownAt _ _ h1) (ownAt _ _ h2), fun j d2 b h1 h2 => ?_, fun j d2 b h1 h2 => ?_, fun j b o2 hp => ?_, fun j d2 q => ?_, fun b u q => ?_⟩
  rotate_right 2
  · rcases get_set q with ⟨rfl, q, _⟩ | ⟨hn, q⟩
    · rcases hk with ⟨_, rfl⟩ | ⟨_, rfl⟩ <;> cases q
    · exact r.brL j d2 q
  · obtain ⟨q1, q2', q3⟩ := r.grd b u q
    have hb : b ≠ a := fun z => q3 i ⟨_, d, h, hd, by rw [z]; exact hs⟩
    exact ⟨by rw [upd_ne hb]; exact q1, q2', fun k w' => q3 k (ownAt _ _ w')⟩
  · rw [upd_ne (ne_of_none q q2.1)]
    exact r.sub _ _ q
  · by_cases hb : b = a
    · subst hb
      exact ⟨o, upd_same⟩
    · rw [upd_ne hb]
      exact r.live _ _ q
  · have hb : b ≠ a := fun z => by
      subst z
      exact m (hm _ q)
    rw [upd_ne hb]
    exact r.keep _ _ q m
  · rcases get_set q with ⟨rfl, q, _⟩ | ⟨hn, q⟩
    · rcases hk with ⟨_, rfl⟩ | ⟨_, rfl⟩ <;> cases q
    · exact r.im j d2 q
  · rcases get_set h1 with ⟨rfl, rfl, _⟩ | ⟨hn, h1⟩
    · rw [hd'] at h2
      cases h2
      exact ⟨a, hs, w⟩
    · obtain ⟨b, w1, w2⟩ := r.own j e2 d2 h1 h2
      have hb := ne j b (Ne.symm hn) ⟨e2, d2, h1, h2, w1⟩
      exact ⟨b, w1, w2.keep (Same.refl _) w2.1 fun u hu => by rw [upd_ne hb]; exact hu⟩
  · rcases get_set h1 with ⟨rfl, z, _⟩ | ⟨hn, h1⟩
    · rcases hk with ⟨rfl, rfl⟩ | ⟨rfl, rfl⟩
      · exact r.ow _ d b h h2
      · cases z
    · exact r.ow j d2 b h1 h2
  · rcases get_set h1 with ⟨rfl, z, _⟩ | ⟨hn, h1⟩
    · rcases hk with ⟨rfl, rfl⟩ | ⟨rfl, rfl⟩
      · cases z
      · exact r.io _ d b h h2
    · exact r.io j d2 b h1 h2
  · obtain ⟨w1, e2, w2, w3⟩ := r.pin j b o2 hp
    refine ⟨w1, ?_⟩
    by_cases hj : i = j
    · subst hj
      rw [h] at w2
      cases w2
      refine ⟨e', List.getElem?_set_self hl, ?_⟩
      cases o2 with
      | none =>
        obtain ⟨d3, rfl⟩ := w3
        rcases hk with ⟨z, _⟩ | ⟨_, rfl⟩
        · cases z
        · exact ⟨d', rfl⟩
      | some d3 =>
        have w3 : e = .br d3 := w3
        subst w3
        rcases hk with ⟨z, _⟩ | ⟨z, _⟩ <;> cases z
    · rw [List.getElem?_set_ne hj]
      exact ⟨e2, w2, w3⟩
/-- an object of no concern is written -/
theorem R.touch (r : R c F ρ σ H Hf) (h1 : Hf a = none) (h2 : F.H0 a = none) (h3 : ∀ i, ¬ OwnAt ρ σ i a) (h4 : F.G a = none) : R c F ρ σ (upd H a o) Hf := by
  refine ⟨r.len, fun b u q => ?_, r.subf, fun b u q => ?_, fun b u q m => ?_, r.out, r.im, fun j e2 d2 w1 w2 => ?_, r.dist, r.ow, r.io, r.pin, r.brL, fun b u q => ?_⟩
  rotate_right
  · obtain ⟨q1, q2, q3⟩ := r.grd b u q
    have hb : b ≠ a := fun z => by rw [z, h4] at q; cases q
    exact ⟨by rw [upd_ne hb]; exact q1, q2, q3⟩
  · rw [upd_ne (ne_of_none q h1)]
    exact r.sub _ _ q
  · rw [upd_ne (ne_of_none q h2)]
    exact r.live _ _ q
  · rw [upd_ne (ne_of_none q h2)]
    exact r.keep _ _ q m
  · obtain ⟨b, q1, q2⟩ := r.own j e2 d2 w1 w2
    have hb : b ≠ a := fun z => h3 j ⟨e2, d2, w1, w2, by rw [← z]; exact q1⟩
    exact ⟨b, q1, q2.keep (Same.refl _) q2.1 fun u hu => by rw [upd_ne hb]; exact hu⟩
/-- the entries told otherwise -/
theorem R.relabel {F' : Fr} {ρ' : Rho} (r : R c F ρ σ H Hf) (hl : ρ'.length = ρ.length) (e0 : F'.H0 = F.H0) (ef : F'.F0 = F.F0) (eg : F'.G = F.G)
    (hbr : ∀ (i : Nat) (d : D), ρ'[i]? = some (.br d) → ∃ a, F'.L i a (some d))
    (hk : ∀ a o, F.H0 a = some o → ¬ F'.Mu a → H a = some o)
    (him : ∀ (i : Nat) (d : D), ρ'[i]? = some (.im d) → ρ[i]? = some (.im d))
    (how : ∀ (i : Nat) (e : Ent) (d : D), ρ'[i]? = some e → e.own? = some d → ∃ e0, ρ[i]? = some e0 ∧ e0.own? = some d)
    (ho : ∀ (i : Nat) (d : D) (a : Addr), ρ'[i]? = some (.ow d) → σ[i]? = some (some (.ref a)) → F.H0 a = none)
    (hi : ∀ (i : Nat) (d : D) (a : Addr), ρ'[i]? = some (.io d) → σ[i]? = some (some (.ref a)) → F'.Mu a)
    (hp : ∀ i a o, F'.L i a o → σ[i]? = some (some (.ref a)) ∧ ∃ e, ρ'[i]? = some e ∧ match o with | none => ∃ d, e = .io d | some d => e = .br d) : R c F' ρ' σ H Hf := by
  have oa : ∀ i a, OwnAt ρ' σ i a → OwnAt ρ σ i a := fun i a ⟨e, d, h1, h2, h3⟩ => by
    obtain ⟨e0, w1, w2⟩ := how i e d h1 h2
    exact ⟨e0, d, w1, w2, h3⟩
  refine ⟨hl.trans r.len, r.sub, by rw [ef]; exact r.subf, by rw [e0]; exact r.live, by rw [e0]; exact hk, by rw [e0, ef]; exact r.out, fun i d h => r.im i d (him i d h), fun i e d h1 h2 => ?_, fun i j a h1 h2 => r.dist i j a (oa _ _ h1) (oa _ _ h2), by rw [e0]; exact ho, hi, hp, hbr, fun b u q => ?_⟩
  rotate_right
  · rw [eg] at q
    obtain ⟨q1, q2, q3⟩ := r.grd b u q
    exact ⟨q1, q2, fun i w => q3 i (oa _ _ w)⟩
  obtain ⟨e1, w1, w2⟩ := how i e d h1 h2
  exact r.own i e1 d w1 w2
/-- the guard of one place -/
def Fr.grd (F : Fr) (a : Addr) (o : HO) : Fr := { F with G := fun b => if b = a then some o else F.G b }
theorem R.guard (r : R c F ρ σ H Hf) (h1 : H a = some o) (h2 : Hf a = none) (h3 : ∀ i, ¬ OwnAt ρ σ i a) : R c (F.grd a o) ρ σ H Hf :=
  ⟨r.len, r.sub, r.subf, r.live, r.keep, r.out, r.im, r.own, r.dist, r.ow, r.io, r.pin, r.brL, fun b u q => by
    by_cases hb : b = a
    · subst hb
      have q : (if b = b then some o else F.G b) = some u := q
      rw [if_pos rfl] at q
      cases q
      exact ⟨h1, h2, h3⟩
    · have q : (if b = a then some o else F.G b) = some u := q
      rw [if_neg hb] at q
      exact r.grd b u q⟩
theorem R.grd_at (r : R c (F.grd a o) ρ σ H Hf) : H a = some o ∧ Hf a = none ∧ ∀ i, ¬ OwnAt ρ σ i a := r.grd a o (by show (if a = a then some o else F.G a) = some o; rw [if_pos rfl])
theorem R.unguard (r : R c (F.grd a o) ρ σ H Hf) (h : F.G a = none) : R c F ρ σ H Hf :=
  ⟨r.len, r.sub, r.subf, r.live, r.keep, r.out, r.im, r.own, r.dist, r.ow, r.io, r.pin, r.brL, fun b u q => r.grd b u (by
    have hb : b ≠ a := fun z => by rw [z, h] at q; cases q
    show (if b = a then some o else F.G b) = some u
    rw [if_neg hb]
    exact q)⟩
end
end NV

/-! NV.C: expressions: the evaluator's answer is what the machine gives. -/
namespace NV
open PySem PySem.Spec PyProof.Rows L2

/-- what is wanted behind an evaluation -/
def Post {α β : Type} (c : Ct) (F : Fr) (W : WX) (σ : St) (dn : α → β → Hp → Prop) (Q : β → Hp → Prop) (Hf : Hp) : Out Rho (α × Rho) → Prop
  | .stuck => False
  | .ok (a, ρ') => ∀ b H' Hf', R c F ρ' σ H' Hf' → Same Hf Hf' → dn a b Hf' → Q b H'
  | .exc n ρ' => ∀ H' Hf' C, R c F ρ' σ H' Hf' → Same Hf Hf' → c.mg (Str.ofString n) = some (.ref C) → W (.ref C) none σ H'
/-- the canonical reading of an evaluation -/
def tvG {α β : Type} (c : Ct) (W : WX) (dn : St → α → β → Hp → Prop) (e : Rho → Out Rho (α × Rho)) : St → Hp → (β → Hp → Prop) → Prop :=
  fun σ H Q => ∃ F ρ Hf, R c F ρ σ H Hf ∧ Post c F W σ (dn σ) Q Hf (e ρ)
section
variable {α β γ δ : Type} {c : Ct} {F : Fr} {W : WX} {ρ ρ' : Rho} {σ : St} {H H' Hf Hf' : Hp} {dn : α → β → Hp → Prop} {dn2 : γ → δ → Hp → Prop} {Q : β → Hp → Prop} {Q2 : δ → Hp → Prop}
theorem Post.mono (s : Same Hf Hf') {o : Out Rho (α × Rho)} (p : Post c F W σ dn Q Hf o) : Post c F W σ dn Q Hf' o := by
  cases o with
  | stuck => exact p
  | ok a => exact fun b H' Hf2 r s2 d => p b H' Hf2 r (s.trans s2) d
  | exc n ρ' => exact fun H' Hf2 C r s2 m => p H' Hf2 C r (s.trans s2) m
theorem Post.imp {Q' : β → Hp → Prop} {o : Out Rho (α × Rho)} (p : Post c F W σ dn Q Hf o) (h : ∀ b H, Q b H → Q' b H) : Post c F W σ dn Q' Hf o := by
  cases o with
  | stuck => exact p
  | ok a => exact fun b H' Hf2 r s2 d => h _ _ (p b H' Hf2 r s2 d)
  | exc n ρ' => exact p
/-- one evaluation ahead of the rest -/
theorem step {dnS : St → α → β → Hp → Prop} {e : Rho → Out Rho (α × Rho)} {f : α × Rho → Out Rho (γ × Rho)} (r : R c F ρ σ H Hf) (p : Post c F W σ dn2 Q2 Hf ((e ρ).bind f))
    (k : ∀ a ρ' b H' Hf', R c F ρ' σ H' Hf' → Same Hf Hf' → dnS σ a b Hf' → Post c F W σ dn2 Q2 Hf' (f (a, ρ')) → Q b H') : tvG c W dnS e σ H Q := by
  refine ⟨F, ρ, Hf, r, ?_⟩
  cases h : e ρ with
  | stuck => rw [h] at p; exact p
  | ok a =>
    obtain ⟨a, ρ'⟩ := a
    rw [h] at p
    intro b H' Hf' r' s' d
    exact k a ρ' b H' Hf' r' s' d (Post.mono s' p)
  | exc n ρ' => rw [h] at p; exact p
theorem tvG.imp {dnS : St → α → β → Hp → Prop} {e : Rho → Out Rho (α × Rho)} {Q' : β → Hp → Prop} (h : tvG c W dnS e σ H Q) (k : ∀ b H, Q b H → Q' b H) : tvG c W dnS e σ H Q' := by
  obtain ⟨F, ρ, Hf, r, p⟩ := h
  exact ⟨F, ρ, Hf, r, p.imp k⟩
end
/-- values; tests; operands -/
abbrev dE (c : Ct) : St → D → V → Hp → Prop := fun _ d v Hf => Den c Hf d v
abbrev dI {α : Type} : St → α → α → Hp → Prop := fun _ a b _ => a = b
def dP (c : Ct) (m : ME) : St → Option D → V → Hp → Prop := fun σ o v Hf => match m with
  | .var i => σ[i]? = some (some v)
  | _ => ∃ d, o = some d ∧ Den c Hf d v
abbrev dL (c : Ct) : St → List D → List V → Hp → Prop := fun _ d v Hf => Dens c Hf d v
def evT (e : Ev) (ρ : Rho) : Out Rho (Bool × Rho) := (e ρ).bind fun x => match x.1 with
  | .bl b => .ok (b, x.2)
  | _ => .stuck
abbrev tv (c : Ct) (W : WX) (e : Ev) : TE := tvG c W (dE c) e
abbrev tT (c : Ct) (W : WX) (e : Ev) : TT := tvG c W dI (evT e)
abbrev tP (c : Ct) (W : WX) (m : ME) : TE := tvG c W (dP c m) (pre m (ev m))
abbrev tL (c : Ct) (W : WX) (l : List ME) : TA := tvG c W (dL c) (evs l)

theorem PE.mono {X : Cx} {e : Expr} {t t' : TE} (h : PE X e t) (k : ∀ σ H Q, t' σ H Q → t σ H Q) : PE X e t' := ⟨fun pins s σ H Q I q => h.run pins s σ H Q I (k σ H Q q)⟩
theorem PT.mono {X : Cx} {e : Expr} {t t' : TT} (h : PT X e t) (k : ∀ σ H Q, t' σ H Q → t σ H Q) : PT X e t' := ⟨fun pins s σ H Q I q => h.run pins s σ H Q I (k σ H Q q)⟩
theorem PW.mono {X : Cx} {e : Expr} {t t' : TT} (h : PW X e t) (k : ∀ σ H Q, t' σ H Q → t σ H Q) : PW X e t' := ⟨fun wh pins s σ H Q I q => h.run wh pins s σ H Q I (k σ H Q q)⟩
theorem PA.mono {X : Cx} {e : List Expr} {t t' : TA} (h : PA X e t) (k : ∀ σ H Q, t' σ H Q → t σ H Q) : PA X e t' := ⟨fun pos pins s σ H Q I q => h.run pos pins s σ H Q I (k σ H Q q)⟩

/-- e's evaluation is m -/
structure Snd (X : Cx) (W : WX) (e : Expr) (m : ME) : Prop where
  pe : PE X e (tv (ctx X) W (ev m))
  pp : PE X e (tP (ctx X) W m)
  pt : PT X e (tT (ctx X) W (ev m))
section
variable {X : Cx} {W : WX} {e a b : Expr} {m ma mb : ME} {pos : Pos}
/-- a value as a test -/
theorem pt_of (h : PE X e (tv (ctx X) W (ev m))) (he : ∀ whole, isTrue e X.env whole = (do let v ← whole; standAt e.pos; holding [v] (truthy v))) : PT X e (tT (ctx X) W (ev m)) := by
  refine PT.mono (pt_val h he) fun σ H Q ⟨F, ρ, Hf, r, p⟩ => ?_
  show tv (ctx X) W (ev m) σ H fun x H1 => ∃ c, x = .bl c ∧ Q c H1
  refine step (f := fun x => match x.1 with | .bl b => .ok (b, x.2) | _ => .stuck) r p fun d ρ' v H' Hf' r' s' dn p' => ?_
  cases d with
  | bl b => exact ⟨b, dn, p' b H' Hf' r' (Same.refl _) rfl⟩
  | _ => exact p'.elim
theorem pp_of (h : PE X e (tv (ctx X) W (ev m))) (hm : ∀ i, m ≠ .var i) : PE X e (tP (ctx X) W m) := by
  refine PE.mono h fun σ H Q ⟨F, ρ, Hf, r, p⟩ => ?_
  have e1 : pre m (ev m) ρ = (ev m ρ).bind fun x => .ok (some x.1, x.2) := by
    cases m <;> first | rfl | exact absurd rfl (hm _)
  rw [e1] at p
  refine step r p fun d ρ' v H' Hf' r' s' dn p' => p' v H' Hf' r' (Same.refl _) ?_
  cases m <;> first | exact ⟨d, rfl, dn⟩ | exact absurd rfl (hm _)
theorem Snd.of (h : PE X e (tv (ctx X) W (ev m))) (hm : ∀ i, m ≠ .var i) (he : ∀ whole, isTrue e X.env whole = (do let v ← whole; standAt e.pos; holding [v] (truthy v))) : Snd X W e m := ⟨h, pp_of h hm, pt_of h he⟩
/-- an operand looked at when all have come -/
theorem top_fin {c : Ct} {F : Fr} {ρ : Rho} {σ : St} {H Hf Hf0 : Hp} {o : Option D} {v : V} {d : D} (r : R c F ρ σ H Hf) (s : Same Hf0 Hf) (h : dP c m σ o v Hf0) (h2 : fin m o ρ = some d) : Top c Hf H d v := by
  cases m with
  | var i =>
    have h2 : peek ρ i = some d := h2
    have h : σ[i]? = some (some v) := h
    unfold peek at h2
    cases q : ρ[i]? with
    | none => rw [q] at h2; cases h2
    | some e =>
      rw [q] at h2
      have ow : ∀ d', e.own? = some d' → d' = d → Top c Hf H d v := fun d' z1 z2 => by
        subst z2
        obtain ⟨a, w1, w2⟩ := r.own i e d' q z1
        rw [h] at w1
        cases w1
        exact Top.of_own w2
      cases e with
      | un => cases h2
      | im d' =>
        cases h2
        obtain ⟨v', w1, w2⟩ := r.im i _ q
        rw [h] at w1
        cases w1
        exact Top.of_den r.sub w2
      | ow d' => cases h2; exact ow _ rfl rfl
      | io d' => cases h2; exact ow _ rfl rfl
      | br d' => cases h2; exact ow _ rfl rfl
  | _ =>
    obtain ⟨d', rfl, dn⟩ := h
    cases h2
    exact Top.of_den r.sub (Den.mono s _ _ dn)
/-! ### names, constants -/
theorem s_var {i : Nat} (h : PE X e (tVar i)) (he : ∀ whole, isTrue e X.env whole = (do let v ← whole; standAt e.pos; holding [v] (truthy v))) : Snd X W e (.var i) := by
  have h1 : PE X e (tv (ctx X) W (ev (.var i))) := by
    refine PE.mono h fun σ H Q ⟨F, ρ, Hf, r, p⟩ => ?_
    have p : Post (ctx X) F W σ (dE (ctx X) σ) Q Hf (evVar ρ i) := p
    unfold evVar at p
    split at p
    · rename_i d q
      obtain ⟨v, w1, w2⟩ := r.im i d q
      exact ⟨v, w1, p v H Hf r (Same.refl _) w2⟩
    · rename_i d q
      obtain ⟨Hf', v, r', s, w1, w2⟩ := r.freezeSlot q
      exact ⟨v, w1, p v H Hf' r' s w2⟩
    · exact p.elim
  refine ⟨h1, PE.mono h fun σ H Q ⟨F, ρ, Hf, r, p⟩ => ?_, pt_of h1 he⟩
  have p : Post (ctx X) F W σ (dP (ctx X) (.var i) σ) Q Hf (match peek ρ i with | some _ => .ok (none, ρ) | none => .stuck) := p
  cases q : peek ρ i with
  | none => rw [q] at p; exact p.elim
  | some d =>
    rw [q] at p
    have hv : ∃ v, σ[i]? = some (some v) := by
      unfold peek at q
      cases z : ρ[i]? with
      | none => rw [z] at q; cases q
      | some e =>
        rw [z] at q
        cases e with
        | un => cases q
        | im d' => obtain ⟨v, w, _⟩ := r.im i _ z; exact ⟨v, w⟩
        | ow d' => obtain ⟨a, w, _⟩ := r.own i _ d' z rfl; exact ⟨_, w⟩
        | io d' => obtain ⟨a, w, _⟩ := r.own i _ d' z rfl; exact ⟨_, w⟩
        | br d' => obtain ⟨a, w, _⟩ := r.own i _ d' z rfl; exact ⟨_, w⟩
    obtain ⟨v, hv⟩ := hv
    exact ⟨v, hv, p v H Hf r (Same.refl _) hv⟩
theorem s_cst {d : D} {v : V} (h : PE X e (tC v)) (hd : ∀ H, Den (ctx X) H d v) (he : ∀ whole, isTrue e X.env whole = (do let v ← whole; standAt e.pos; holding [v] (truthy v))) : Snd X W e (.cst d) := by
  refine Snd.of (PE.mono h fun σ H Q ⟨F, ρ, Hf, r, p⟩ => ?_) (fun i z => nomatch z) he
  exact p v H Hf r (Same.refl _) (hd Hf)
theorem mk_str (x : Str) : (⟨x.cps.toList.toArray⟩ : Str) = x := by
  cases x
  simp

/-! ### argument lists -/
inductive SndL (X : Cx) (W : WX) : List Expr → List ME → Prop where
  | nil : SndL X W [] []
  | cons {e : Expr} {m : ME} {es : List Expr} {ms : List ME} (h : Snd X W e m) (hs : starEach (e :: es) X.env = (false, eval e X.env) :: starEach es X.env) (t : SndL X W es ms) : SndL X W (e :: es) (m :: ms)
theorem SndL.pa {es : List Expr} {ms : List ME} (h : SndL X W es ms) : PA X es (tL (ctx X) W ms) := by
  induction h with
  | nil =>
    refine PA.mono pa_nil fun σ H Q ⟨F, ρ, Hf, r, p⟩ => ?_
    exact p [] H Hf r (Same.refl _) rfl
  | @cons e m es ms h hs t ih =>
    refine PA.mono (pa_cons h.pe ih hs) fun σ H Q ⟨F, ρ, Hf, r, p⟩ => ?_
    have p : Post (ctx X) F W σ (dL (ctx X) σ) Q Hf ((ev m ρ).bind fun x => (evs ms x.2).bind fun y => .ok (x.1 :: y.1, y.2)) := p
    refine step r p fun d ρ1 v H1 Hf1 r1 s1 dn1 p1 => ?_
    refine step r1 p1 fun ds ρ2 vs H2 Hf2 r2 s2 dn2 p2 => ?_
    exact p2 (v :: vs) H2 Hf2 r2 (Same.refl _) ⟨v, vs, rfl, Den.mono s2 _ _ dn1, dn2⟩
theorem SndL.len {es : List Expr} {ms : List ME} (h : SndL X W es ms) : es.length = ms.length := by
  induction h with
  | nil => rfl
  | cons _ _ _ ih => simp [ih]
/-- operands -/
def dPs (c : Ct) : List ME → St → List (Option D) → List V → Hp → Prop
  | [], _, os, vs, _ => os = [] ∧ vs = []
  | m :: ms, σ, os, vs, Hf => ∃ o os' v vs', os = o :: os' ∧ vs = v :: vs' ∧ dP c m σ o v Hf ∧ dPs c ms σ os' vs' Hf
theorem dP.mono {c : Ct} {σ : St} {o : Option D} {v : V} {H H' : Hp} (s : Same H H') (h : dP c m σ o v H) : dP c m σ o v H' := by
  cases m with
  | var i => exact h
  | _ => obtain ⟨d, e, h⟩ := h; exact ⟨d, e, Den.mono s _ _ h⟩
theorem SndL.pps {es : List Expr} {ms : List ME} (h : SndL X W es ms) : PA X es (tvG (ctx X) W (dPs (ctx X) ms) (pres ms)) := by
  induction h with
  | nil =>
    refine PA.mono pa_nil fun σ H Q ⟨F, ρ, Hf, r, p⟩ => ?_
    exact p [] H Hf r (Same.refl _) ⟨rfl, rfl⟩
  | @cons e m es ms h hs t ih =>
    refine PA.mono (pa_cons h.pp ih hs) fun σ H Q ⟨F, ρ, Hf, r, p⟩ => ?_
    have p : Post (ctx X) F W σ (dPs (ctx X) (m :: ms) σ) Q Hf ((pre m (ev m) ρ).bind fun x => (pres ms x.2).bind fun y => .ok (x.1 :: y.1, y.2)) := p
    refine step r p fun d ρ1 v H1 Hf1 r1 s1 dn1 p1 => ?_
    refine step r1 p1 fun ds ρ2 vs H2 Hf2 r2 s2 dn2 p2 => ?_
    exact p2 (v :: vs) H2 Hf2 r2 (Same.refl _) ⟨d, ds, v, vs, rfl, rfl, dP.mono s2 dn1, dn2⟩
inductive Tops (c : Ct) (Hf H : Hp) : List D → List V → Prop where
  | nil : Tops c Hf H [] []
  | cons {d : D} {v : V} {ds : List D} {vs : List V} (h : Top c Hf H d v) (t : Tops c Hf H ds vs) : Tops c Hf H (d :: ds) (v :: vs)
theorem tops_finL {c : Ct} {F : Fr} {ρ : Rho} {σ : St} {H Hf Hf0 : Hp} (r : R c F ρ σ H Hf) (s : Same Hf0 Hf) : ∀ {ms : List ME} {os : List (Option D)} {vs : List V} {ds : List D}, dPs c ms σ os vs Hf0 → finL ms os ρ = some ds → Tops c Hf H ds vs
  | [], os, vs, ds, h, e => by
    obtain ⟨rfl, rfl⟩ := h
    cases e
    exact .nil
  | m :: ms, os, vs, ds, h, e => by
    obtain ⟨o, os', v, vs', rfl, rfl, h1, h2⟩ := h
    unfold finL at e
    cases q : fin m o ρ with
    | none => rw [q] at e; cases e
    | some d =>
      cases q2 : finL ms os' ρ with
      | none => rw [q, q2] at e; cases e
      | some ds' =>
        rw [q, q2] at e
        cases e
        exact .cons (top_fin r s h1 q) (tops_finL r s h2 q2)

/-! ### displays -/
theorem s_tup {es : List Expr} {ms : List ME} {k : Nat} (h : SndL X W es ms) (hl : ms.length ≤ sizeLine) : Snd X W (.Tuple es k pos) (.tup ms) := by
  refine Snd.of (PE.mono (pe_tup h.pa) fun σ H Q ⟨F, ρ, Hf, r, p⟩ => ?_) (fun i z => nomatch z) (fun _ => rfl)
  have p : Post (ctx X) F W σ (dE (ctx X) σ) Q Hf ((evs ms ρ).bind fun x => .ok (.tup x.1, x.2)) := p
  have hlen : ∀ ms ρ ds ρ', evs ms ρ = .ok (ds, ρ') → ds.length = ms.length := by
    intro ms
    induction ms with
    | nil => intro ρ ds ρ' h; cases h; rfl
    | cons m ms ih =>
      intro ρ ds ρ' h
      have h : ((ev m ρ).bind fun x => (evs ms x.2).bind fun y => .ok (x.1 :: y.1, y.2)) = .ok (ds, ρ') := h
      cases q : ev m ρ with
      | stuck => rw [q] at h; cases h
      | exc _ _ => rw [q] at h; cases h
      | ok x =>
        rw [q] at h
        have h : ((evs ms x.2).bind fun y => .ok (x.1 :: y.1, y.2)) = (.ok (ds, ρ') : Out Rho (List D × Rho)) := h
        cases q2 : evs ms x.2 with
        | stuck => rw [q2] at h; cases h
        | exc _ _ => rw [q2] at h; cases h
        | ok y =>
          rw [q2] at h
          cases h
          simp [ih x.2 y.1 y.2 q2]
  refine ⟨F, ρ, Hf, r, ?_⟩
  cases q : evs ms ρ with
  | stuck => rw [q] at p; exact p.elim
  | exc n ρ' => rw [q] at p; exact p
  | ok a =>
    obtain ⟨ds, ρ'⟩ := a
    rw [q] at p
    intro vs H' Hf' r' s' dn
    have e1 := hlen _ _ _ _ q
    have e2 := Dens.length dn
    refine ⟨by omega, fun a ha => ?_⟩
    obtain ⟨r2, s2⟩ := r'.alloc ha (.tup vs)
    exact p (.ref a) _ _ r2 (s'.trans s2) ⟨a, vs, rfl, .inl (.inl upd_same), Dens.mono s2 _ _ dn⟩
end
end NV

/-! NV.D: operators, items, slices, truth. -/
namespace NV
open PySem PySem.Spec PyProof.Rows L2

theorem szl_eq : szl = sizeLine := by rw [sizeLine_eq]; rfl
/-! ### new containers -/
def PostF (c : Ct) (F : Fr) (W : WX) (σ : St) (Q : VK) (Hf : Hp) : Res → Prop
  | .stuck => False
  | .ok (d, ρ') => ∀ a H' Hf', R c F ρ' σ H' Hf' → Same Hf Hf' → Own c Hf' H' d a → F.H0 a = none → (∀ i, ¬ OwnAt ρ' σ i a) → F.G a = none → Q (.ref a) H'
  | .exc n ρ' => ∀ H' Hf' C, R c F ρ' σ H' Hf' → Same Hf Hf' → c.mg (Str.ofString n) = some (.ref C) → W (.ref C) none σ H'
def tvF (c : Ct) (W : WX) (e : Ev) : TE := fun σ H Q => ∃ F ρ Hf, R c F ρ σ H Hf ∧ PostF c F W σ Q Hf (e ρ)
section
variable {c : Ct} {F : Fr} {W : WX} {ρ ρ' : Rho} {σ : St} {H H' Hf Hf' : Hp} {Q : VK}
theorem PostF.of {o : Res} (p : Post c F W σ (dE c σ) Q Hf o) : PostF c F W σ Q Hf o := by
  cases o with
  | stuck => exact p
  | exc n ρ' => exact p
  | ok x =>
    obtain ⟨d, ρ'⟩ := x
    intro a H' Hf' r s w h0 hu hg
    obtain ⟨Hf2, r2, s2, dn⟩ := r.freeze w h0 hu hg
    exact p _ _ _ r2 (s.trans s2) dn
theorem PostF.mono (s : Same Hf Hf') {o : Res} (p : PostF c F W σ Q Hf o) : PostF c F W σ Q Hf' o := by
  cases o with
  | stuck => exact p
  | ok a => exact fun b H' Hf2 r s2 d => p b H' Hf2 r (s.trans s2) d
  | exc n ρ' => exact fun H' Hf2 C r s2 m => p H' Hf2 C r (s.trans s2) m
theorem tvF.of {e : Ev} (h : tv c W e σ H Q) : tvF c W e σ H Q := by
  obtain ⟨F, ρ, Hf, r, p⟩ := h
  exact ⟨F, ρ, Hf, r, PostF.of p⟩
theorem stepF {α β : Type} {dnS : St → α → β → Hp → Prop} {Q' : β → Hp → Prop} {e : Rho → Out Rho (α × Rho)} {f : α × Rho → Res} (r : R c F ρ σ H Hf) (p : PostF c F W σ Q Hf ((e ρ).bind f))
    (k : ∀ a ρ' b H' Hf', R c F ρ' σ H' Hf' → Same Hf Hf' → dnS σ a b Hf' → PostF c F W σ Q Hf' (f (a, ρ')) → Q' b H') : tvG c W dnS e σ H Q' := by
  refine ⟨F, ρ, Hf, r, ?_⟩
  cases h : e ρ with
  | stuck => rw [h] at p; exact p
  | ok a =>
    obtain ⟨a, ρ'⟩ := a
    rw [h] at p
    intro b H' Hf' r' s' d
    exact k a ρ' b H' Hf' r' s' d (PostF.mono s' p)
  | exc n ρ' => rw [h] at p; exact p
/-- a new object handed out as an own container -/
theorem PostF.new {d : D} {o : HO} {a : Addr} (r : R c F ρ σ H Hf) (p : PostF c F W σ Q Hf (.ok (d, ρ))) (ha : H a = none) (w : Own c Hf (upd H a o) d a) : Q (.ref a) (upd H a o) := by
  obtain ⟨f1, f2⟩ := r.free ha
  refine p a _ _ (r.allocOwn ha o) (Same.refl _) w f2 (fun i h => r.own_ne h ha rfl) ?_
  cases z : F.G a with
  | none => rfl
  | some u =>
    have := (r.grd a u z).1
    rw [ha] at this
    cases this
end
/-- e makes a new container, m -/
structure SndF (X : Cx) (W : WX) (e : Expr) (m : ME) : Prop where
  pf : PE X e (tvF (ctx X) W (ev m))
section
variable {X : Cx} {W : WX} {e a b : Expr} {m ma mb : ME} {pos : Pos}
theorem SndF.snd (h : SndF X W e m) (hm : ∀ i, m ≠ .var i) (he : ∀ whole, isTrue e X.env whole = (do let v ← whole; standAt e.pos; holding [v] (truthy v))) : Snd X W e m :=
  Snd.of (PE.mono h.pf fun σ H Q q => tvF.of q) hm he
theorem evs_len : ∀ {ms : List ME} {ρ ds ρ'}, evs ms ρ = .ok (ds, ρ') → ds.length = ms.length
  | [], ρ, ds, ρ', h => by
    cases h
    rfl
  | m :: ms, ρ, ds, ρ', h => by
    have h : ((ev m ρ).bind fun x => (evs ms x.2).bind fun y => .ok (x.1 :: y.1, y.2)) = .ok (ds, ρ') := h
    cases q : ev m ρ with
    | stuck => rw [q] at h; cases h
    | exc _ _ => rw [q] at h; cases h
    | ok x =>
      rw [q] at h
      have h : ((evs ms x.2).bind fun y => .ok (x.1 :: y.1, y.2)) = (.ok (ds, ρ') : Out Rho (List D × Rho)) := h
      cases q2 : evs ms x.2 with
      | stuck => rw [q2] at h; cases h
      | exc _ _ => rw [q2] at h; cases h
      | ok y =>
        rw [q2] at h
        cases h
        simp [evs_len (ds := y.1) (ρ' := y.2) q2]
theorem s_lst {es : List Expr} {ms : List ME} (h : SndL X W es ms) (hl : ms.length ≤ sizeLine) : SndF X W (.List es pos) (.lst ms) := by
  refine ⟨PE.mono (pe_lst h.pa) fun σ H Q ⟨F, ρ, Hf, r, p⟩ => ?_⟩
  have p : PostF (ctx X) F W σ Q Hf ((evs ms ρ).bind fun x => .ok (.lst x.1, x.2)) := p
  refine ⟨F, ρ, Hf, r, ?_⟩
  cases q : evs ms ρ with
  | stuck => rw [q] at p; exact p.elim
  | exc n ρ' => rw [q] at p; exact p
  | ok a =>
    obtain ⟨ds, ρ'⟩ := a
    rw [q] at p
    intro vs H' Hf' r' s' dn
    have e1 := evs_len q
    have e2 := Dens.length dn
    refine ⟨by omega, fun a ha => ?_⟩
    exact PostF.new r' (PostF.mono s' p) ha ⟨(r'.free ha).1, vs, upd_same, dn⟩
theorem dHO_new {s : Shared} {H : Hp} {c : Ct} (hb : s.heap.objs.size ≠ sysModules) :
    ObjOk c.P c.w (upd H s.heap.objs.size (dHO c s.heap.objs.size [])) (s.heap.push { cls := .type "dict", data := .dict #[] }) s.heap.objs.size (dHO c s.heap.objs.size []) := by
  have g : (s.heap.push { cls := .type "dict", data := .dict #[] }).get? s.heap.objs.size = some { cls := .type "dict", data := .dict #[] } := Heap.get?_push_size _ rfl
  refine ⟨⟨by simp [hb], Nat.zero_le _, List.nodup_nil, [], .nil, _, #[], 0, g, ⟨rfl, rfl, rfl⟩, rfl, rfl⟩, ⟨_, g⟩, ?_⟩
  rintro h1 h2 ⟨z1, z2, z3, ys, z4, o, es, ep, z5, z6⟩ k
  exact ⟨z1, z2, z3, ys, z4, o, es, ep, k _ z5, z6⟩
theorem dHO_stay (c : Ct) (a : Addr) (xs : List (NestedKey × Addr × V)) (h1 h2 : Heap) (k : ∀ o, h1.get? a = some o → h2.get? a = some o) :
    ((a == sysModules) = false ∧ xs.length ≤ sizeLine ∧ (xs.map (·.1)).Nodup ∧ ∃ ys : List (NestedKey × Addr × Value), Paired (fun (p : NestedKey × Addr × V) (q : NestedKey × Addr × Value) => p.1 = q.1 ∧ p.2.1 = q.2.1 ∧ RelV p.2.2 q.2.2) xs ys ∧
    ∃ o es ep, h1.get? a = some o ∧ o.ExactDict ∧ o.data = .dict es ep ∧ es.toList = ys.map (entryOfKey (nestedKind c.P c.w))) →
    ((a == sysModules) = false ∧ xs.length ≤ sizeLine ∧ (xs.map (·.1)).Nodup ∧ ∃ ys : List (NestedKey × Addr × Value), Paired (fun (p : NestedKey × Addr × V) (q : NestedKey × Addr × Value) => p.1 = q.1 ∧ p.2.1 = q.2.1 ∧ RelV p.2.2 q.2.2) xs ys ∧
    ∃ o es ep, h2.get? a = some o ∧ o.ExactDict ∧ o.data = .dict es ep ∧ es.toList = ys.map (entryOfKey (nestedKind c.P c.w))) := by
  rintro ⟨z1, z2, z3, ys, z4, o, es, ep, z5, z6⟩
  exact ⟨z1, z2, z3, ys, z4, o, es, ep, k _ z5, z6⟩
theorem s_emp : SndF X W (.Dict [] [] pos) .emp := by
  refine ⟨⟨fun pins s σ H Q I ⟨F, ρ, Hf, r, p⟩ => ?_⟩⟩
  have ha := I.hok.fresh (Nat.le_refl s.heap.objs.size)
  refine wpAny_Dict_empty ⟨.ref s.heap.objs.size, _, I.laid (a := s.heap.objs.size) (o := dHO (ctx X) s.heap.objs.size []) (t' := s.toks) (fun _ _ q => Heap.get?_push_of_some _ q) (Nat.le_refl _) (dHO_new (c := ctx X) ?_), rfl, ?_⟩
  · exact Ne.symm (Nat.ne_of_lt I.big)
  · exact PostF.new r p ha ⟨(r.free ha).1, [], upd_same, ⟨rfl, rfl⟩, rfl, rfl⟩

/-! ### operators by their data -/
/-- an operation on data, by values -/
def rOp (c : Ct) (W : WX) (f : D → D → Option D) : R2 := fun x y H Q => ∃ F ρ σ Hf p q, R c F ρ σ H Hf ∧ Top c Hf H p x ∧ Top c Hf H q y ∧ Post c F W σ (dE c σ) Q Hf (opt (f p q) ρ)
theorem OpR.imp {f : Value → Value → Sem Value} {r r' : R2} (h : OpR X f r) (k : ∀ x y H Q, r' x y H Q → r x y H Q) : OpR X f r' := fun pins s σ H x y v u Q I rx ry q => h pins s σ H x y v u Q I rx ry (k _ _ _ _ q)
theorem s_op {ea eb : Expr} {o : Op} {op : Operator} (ha : Snd X W ea ma) (hb : Snd X W eb mb) (ho : OpR X (binaryOp op) (rOp (ctx X) W (binD o))) : Snd X W (.BinOp ea op eb pos) (.bin o ma mb) := by
  refine Snd.of (PE.mono (pe_op ho ha.pp hb.pp) fun σ H Q ⟨F, ρ, Hf, r, p⟩ => ?_) (fun i z => nomatch z) (fun _ => rfl)
  have p : Post (ctx X) F W σ (dE (ctx X) σ) Q Hf ((pre ma (ev ma) ρ).bind fun x => (pre mb (ev mb) x.2).bind fun y => match fin ma x.1 y.2, fin mb y.1 y.2 with
    | some p, some q => opt (binD o p q) y.2
    | _, _ => .stuck) := p
  refine step r p fun d ρ1 v H1 Hf1 r1 s1 dn1 p1 => ?_
  refine step r1 p1 fun d2 ρ2 v2 H2 Hf2 r2 s2 dn2 p2 => ?_
  dsimp only at p2
  split at p2
  · rename_i x y e1 e2
    exact ⟨F, ρ2, σ, Hf2, x, y, r2, top_fin r2 s2 dn1 e1, top_fin r2 (Same.refl _) dn2 e2, p2⟩
  · exact p2.elim
theorem s_cmp {ea eb : Expr} {o : Cm} {op : CmpOp} (ha : Snd X W ea ma) (hb : Snd X W eb mb) (hm : behindInMarks op eb = false) (ho : OpR X (compareOp op) (rOp (ctx X) W (cmpD o))) : Snd X W (.Compare ea [op] [eb] pos) (.cmp o ma mb) := by
  have key : ∀ {α β : Type} {dn2 : α → β → Hp → Prop} {Q2 : β → Hp → Prop} {Q' : VK} {σ H F ρ Hf} {f : D × Rho → Out Rho (α × Rho)}, R (ctx X) F ρ σ H Hf → Post (ctx X) F W σ dn2 Q2 Hf ((ev (.cmp o ma mb) ρ).bind f) →
      (∀ Hf', Same Hf Hf' → ∀ {ρ' d}, Post (ctx X) F W σ dn2 Q2 Hf' ((opt d ρ').bind f) → Post (ctx X) F W σ (dE (ctx X) σ) Q' Hf' (opt d ρ')) → tOp (rOp (ctx X) W (cmpD o)) (tP (ctx X) W ma) (tP (ctx X) W mb) σ H Q' := by
    intro α β dn2 Q2 Q' σ H F ρ Hf f r p k
    have p : Post (ctx X) F W σ dn2 Q2 Hf (((pre ma (ev ma) ρ).bind fun x => (pre mb (ev mb) x.2).bind fun y => match fin ma x.1 y.2, fin mb y.1 y.2 with
      | some p, some q => opt (cmpD o p q) y.2
      | _, _ => .stuck).bind f) := p
    have assoc : ∀ {α β γ : Type} (o : Out Rho α) (g : α → Out Rho β) (h : β → Out Rho γ), (o.bind g).bind h = o.bind fun x => (g x).bind h := fun o g h => by cases o <;> rfl
    rw [assoc] at p
    refine step r p fun d ρ1 v H1 Hf1 r1 s1 dn1 p1 => ?_
    rw [assoc] at p1
    refine step r1 p1 fun d2 ρ2 v2 H2 Hf2 r2 s2 dn2 p2 => ?_
    dsimp only at p2
    split at p2
    · rename_i x y e1 e2
      exact ⟨F, ρ2, σ, Hf2, x, y, r2, top_fin r2 s2 dn1 e1, top_fin r2 (Same.refl _) dn2 e2, k _ (s1.trans s2) p2⟩
    · exact p2.elim
  have bid : ∀ {α : Type} (o : Out Rho α), o.bind .ok = o := fun o => by cases o <;> rfl
  have h1 : PE X (.Compare ea [op] [eb] pos) (tv (ctx X) W (ev (.cmp o ma mb))) := by
    refine PE.mono (pe_cmpR ho ha.pp hb.pp hm) fun σ H Q ⟨F, ρ, Hf, r, p⟩ => ?_
    refine key (f := .ok) r (by rw [bid]; exact p) fun Hf' s ρ' d p' => ?_
    rw [bid] at p'
    exact p'
  refine ⟨h1, pp_of h1 (fun i z => nomatch z), ?_⟩
  refine PT.mono (pt_cmpR ho ha.pp hb.pp hm) fun σ H Q ⟨F, ρ, Hf, r, p⟩ => ?_
  refine key (f := fun x => match x.1 with | .bl b => .ok (b, x.2) | _ => .stuck) r p fun Hf' s ρ' d p' => ?_
  cases d with
  | none => exact p'.elim
  | some d =>
    cases d with
    | bl b =>
      intro v H' Hf2 r2 s2 dn
      exact ⟨b, dn, p' b H' Hf2 r2 s2 rfl⟩
    | _ => exact p'.elim
theorem op_addX : OpR X (binaryOp .Add) (rOp (ctx X) W (binD .add)) := by
  intro pins s σ0 H x y v u Q I rx ry ⟨F, ρ, σ, Hf, p, q, r, tp, tq, po⟩
  replace po : Post (ctx X) F W σ (dE (ctx X) σ) Q Hf (opt (addD p q) ρ) := po
  unfold addD at po
  split at po
  · rename_i i j
    exact op_add pins s σ0 H x y v u Q I rx ry ⟨i, j, tp, tq, po _ _ _ r (Same.refl _) rfl⟩
  · rename_i i j
    obtain ⟨rfl, g1⟩ := (show Den _ _ _ _ from tp)
    obtain ⟨rfl, g2⟩ := (show Den _ _ _ _ from tq)
    split at po
    · rename_i hz
      have hz : i.length + j.length ≤ 16777216 := hz
      refine op_add_str pins s σ0 H _ _ v u Q I rx ry ⟨_, _, rfl, rfl, by rw [sizeLine_eq]; exact hz, po _ _ _ r (Same.refl _) ⟨?_, ?_, fun z hz => ?_⟩⟩
      · show V.str ⟨_⟩ = V.str ⟨_⟩
        simp
      · rw [List.length_append]; exact hz
      · rcases List.mem_append.mp hz with h | h
        · exact g1.2 z h
        · exact g2.2 z h
    · exact po.elim
  · rename_i i j
    obtain ⟨a, vs, rfl, h1, h2⟩ := tp
    obtain ⟨b, ws, rfl, h3, h4⟩ := tq
    split at po
    · rename_i hz
      rw [Dens.length h2, Dens.length h4, szl_eq] at hz
      refine op_cat pins s σ0 H _ _ v u Q I rx ry ⟨a, b, vs, ws, rfl, rfl, h1, h3, hz, fun t ht => ?_⟩
      obtain ⟨r2, s2⟩ := r.alloc ht (.lst (vs ++ ws))
      exact po _ _ _ r2 s2 ⟨t, _, rfl, upd_same, Dens.append (Dens.mono s2 _ _ h2) (Dens.mono s2 _ _ h4)⟩
    · exact po.elim
  · rename_i i j
    obtain ⟨a, vs, rfl, h1, h2⟩ := (show Den _ _ _ _ from tp)
    obtain ⟨b, ws, rfl, h3, h4⟩ := (show Den _ _ _ _ from tq)
    split at po
    · rename_i hz
      rw [Dens.length h2, Dens.length h4, szl_eq] at hz
      refine op_catA pins s σ0 H _ _ v u Q I rx ry ⟨a, b, vs, ws, rfl, rfl, Same.seqT r.sub h1, Same.seqT r.sub h3, hz, fun e => ?_, fun e1 e2 => ?_, fun _ _ t ht => ?_⟩
      · subst e
        have e := Dens.length h2
        have e : i = [] := List.length_eq_zero_iff.mp e
        subst e
        exact po _ _ _ r (Same.refl _) ⟨b, ws, rfl, h3, h4⟩
      · subst e2
        have e := Dens.length h4
        have e : j = [] := List.length_eq_zero_iff.mp e
        subst e
        rw [List.append_nil] at po
        exact po _ _ _ r (Same.refl _) ⟨a, vs, rfl, h1, h2⟩
      · obtain ⟨r2, s2⟩ := r.alloc ht (.tup (vs ++ ws))
        exact po _ _ _ r2 s2 ⟨t, _, rfl, .inl (.inl upd_same), Dens.append (Dens.mono s2 _ _ h2) (Dens.mono s2 _ _ h4)⟩
    · exact po.elim
  · exact po.elim
theorem op_subX : OpR X (binaryOp .Sub) (rOp (ctx X) W (binD .sub)) := by
  intro pins s σ0 H x y v u Q I rx ry ⟨F, ρ, σ, Hf, p, q, r, tp, tq, po⟩
  replace po : Post (ctx X) F W σ (dE (ctx X) σ) Q Hf (opt (subD p q) ρ) := po
  unfold subD at po
  split at po
  · rename_i i j
    exact op_sub pins s σ0 H x y v u Q I rx ry ⟨i, j, tp, tq, po _ _ _ r (Same.refl _) rfl⟩
  · exact po.elim
theorem op_mulX : OpR X (binaryOp .Mult) (rOp (ctx X) W (binD .mul)) := by
  intro pins s σ0 H x y v u Q I rx ry ⟨F, ρ, σ, Hf, p, q, r, tp, tq, po⟩
  replace po : Post (ctx X) F W σ (dE (ctx X) σ) Q Hf (opt (mulD p q) ρ) := po
  unfold mulD at po
  split at po
  · rename_i i j
    split at po
    · rename_i hc
      have hc : CMul i j := by
        rcases hc with h | h
        · exact .inl ⟨by omega, by omega⟩
        · exact .inr ⟨by omega, by omega⟩
      exact op_mul pins s σ0 H x y v u Q I rx ry ⟨i, j, tp, tq, hc, po _ _ _ r (Same.refl _) rfl⟩
    · exact po.elim
  · exact po.elim
theorem op_divX : OpR X (binaryOp .FloorDiv) (rOp (ctx X) W (binD .div)) := by
  intro pins s σ0 H x y v u Q I rx ry ⟨F, ρ, σ, Hf, p, q, r, tp, tq, po⟩
  replace po : Post (ctx X) F W σ (dE (ctx X) σ) Q Hf (opt (divD p q) ρ) := po
  unfold divD at po
  split at po
  · rename_i i j
    split at po
    · rename_i hc
      exact op_fdiv pins s σ0 H x y v u Q I rx ry ⟨i, j, tp, tq, hc, po _ _ _ r (Same.refl _) rfl⟩
    · exact po.elim
  · exact po.elim
theorem op_modX : OpR X (binaryOp .Mod) (rOp (ctx X) W (binD .mod)) := by
  intro pins s σ0 H x y v u Q I rx ry ⟨F, ρ, σ, Hf, p, q, r, tp, tq, po⟩
  replace po : Post (ctx X) F W σ (dE (ctx X) σ) Q Hf (opt (modD p q) ρ) := po
  unfold modD at po
  split at po
  · rename_i i j
    split at po
    · rename_i hc
      exact op_mod pins s σ0 H x y v u Q I rx ry ⟨i, j, tp, tq, hc, po _ _ _ r (Same.refl _) rfl⟩
    · exact po.elim
  · exact po.elim
end
end NV

/-! NV.E: equality, membership, dicts read. -/
namespace NV
open PySem PySem.Spec PyProof.Rows L2

mutual
def py : D → PyData
  | .non => .none | .bl b => .bool b | .int i => .int i | .str s => .str ⟨s.toArray⟩
  | .tup l => .tuple (pyL l) | .lst l => .list (pyL l)
  | .dic _ _ => .none | .obj _ _ => .none | .scr _ => .none | .adr _ => .none
def pyL : List D → List PyData
  | [] => []
  | x :: l => py x :: pyL l
end
mutual
theorem py_eqv : ∀ a b : D, a.dep < 1000 → b.dep < 1000 → PyData.eqv (py a) (py b) = eqD a b
  | .non, b, h1, h2 => by cases b <;> simp_all [py, eqD, PyData.eqv, D.dep]
  | .bl x, b, h1, h2 => by cases b <;> simp_all [py, eqD, PyData.eqv, D.dep]
  | .int x, b, h1, h2 => by cases b <;> simp_all [py, eqD, PyData.eqv, D.dep]
  | .str x, b, h1, h2 => by
    cases b <;> simp_all [py, eqD, PyData.eqv, D.dep]
    exact Bool.eq_iff_iff.mpr (by simp)
  | .tup l, b, h1, h2 => by
    have h1 : D.depL l + 1 < 1000 := by simpa [D.dep] using h1
    cases b with
    | tup l' =>
      have h2 : D.depL l' + 1 < 1000 := by simpa [D.dep] using h2
      simp [py, eqD, PyData.eqv, py_eqvL l l' (by omega) (by omega)]
    | _ => simp_all [py, eqD, PyData.eqv, D.dep]
  | .lst l, b, h1, h2 => by
    have h1 : D.depL l + 1 < 1000 := by simpa [D.dep] using h1
    cases b with
    | lst l' =>
      have h2 : D.depL l' + 1 < 1000 := by simpa [D.dep] using h2
      simp [py, eqD, PyData.eqv, py_eqvL l l' (by omega) (by omega)]
    | _ => simp_all [py, eqD, PyData.eqv, D.dep]
  | .dic _ _, b, h1, h2 => by simp [D.dep] at h1
  | .obj _ _, b, h1, h2 => by simp [D.dep] at h1
  | .scr _, b, h1, h2 => by simp [D.dep] at h1
  | .adr _, b, h1, h2 => by simp [D.dep] at h1
termination_by structural a => a
theorem py_eqvL : ∀ a b : List D, D.depL a < 1000 → D.depL b < 1000 → PyData.eqvAll (pyL a) (pyL b) = eqL a b
  | [], b, h1, h2 => by cases b <;> simp [pyL, eqL, PyData.eqvAll]
  | x :: a, b, h1, h2 => by
    have h1 : max x.dep (D.depL a) < 1000 := by simpa [D.depL] using h1
    cases b with
    | nil => simp [pyL, eqL, PyData.eqvAll]
    | cons y b =>
      have h2 : max y.dep (D.depL b) < 1000 := by simpa [D.depL] using h2
      simp [pyL, eqL, PyData.eqvAll, py_eqv x y (by omega) (by omega), py_eqvL a b (by omega) (by omega)]
termination_by structural a => a
end
mutual
theorem py_depth : ∀ a : D, a.dep < 1000 → (py a).depth = a.dep
  | .non, _ => by simp [py, PyData.depth, D.dep]
  | .bl _, _ => by simp [py, PyData.depth, D.dep]
  | .int _, _ => by simp [py, PyData.depth, D.dep]
  | .str _, _ => by simp [py, PyData.depth, D.dep]
  | .tup l, h => by
    have h : D.depL l + 1 < 1000 := by simpa [D.dep] using h
    simp [py, PyData.depth, D.dep, py_depthL l (by omega)]
  | .lst l, h => by
    have h : D.depL l + 1 < 1000 := by simpa [D.dep] using h
    simp [py, PyData.depth, D.dep, py_depthL l (by omega)]
  | .dic _ _, h => by simp [D.dep] at h
  | .obj _ _, h => by simp [D.dep] at h
  | .scr _, h => by simp [D.dep] at h
  | .adr _, h => by simp [D.dep] at h
termination_by structural a => a
theorem py_depthL : ∀ a : List D, D.depL a < 1000 → PyData.depthAll (pyL a) = D.depL a
  | [], _ => by simp [pyL, PyData.depthAll, D.depL]
  | x :: a, h => by
    have h : max x.dep (D.depL a) < 1000 := by simpa [D.depL] using h
    simp [pyL, PyData.depthAll, D.depL, py_depth x (by omega), py_depthL a (by omega)]
termination_by structural a => a
end
mutual
theorem den_dp {c : Ct} {Hf H : Hp} (s : Same Hf H) : ∀ (d : D) (v : V), d.dep < 1000 → Den c Hf d v → Dp c.K H v (py d) ∧ (py d).canLay0 = true
  | .non, _, _, h => by cases h; exact ⟨.non, rfl⟩
  | .bl b, _, _, h => by cases h; exact ⟨.bl b, rfl⟩
  | .int i, _, _, h => by cases h; exact ⟨.int i, rfl⟩
  | .str x, _, _, ⟨h, g⟩ => by
    cases h
    refine ⟨.str _, ?_⟩
    show PyData.strOk _ = true
    unfold PyData.strOk
    simpa [Array.all_eq_true_iff_forall_mem] using g.2
  | .tup l, _, hd, ⟨a, vs, e, h1, h2⟩ => by
    subst e
    have hd : D.depL l + 1 < 1000 := by simpa [D.dep] using hd
    obtain ⟨w1, w2⟩ := dens_dp s l vs (by omega) h2
    exact ⟨.tup (Same.seqT s h1) w1, w2⟩
  | .lst l, _, hd, ⟨a, vs, e, h1, h2⟩ => by
    subst e
    have hd : D.depL l + 1 < 1000 := by simpa [D.dep] using hd
    obtain ⟨w1, w2⟩ := dens_dp s l vs (by omega) h2
    exact ⟨.lst (SqL.of (s _ _ h1)) w1, w2⟩
  | .dic _ _, _, h, _ => by simp [D.dep] at h
  | .obj _ _, _, h, _ => by simp [D.dep] at h
  | .scr _, _, h, _ => by simp [D.dep] at h
  | .adr _, _, h, _ => by simp [D.dep] at h
termination_by structural d => d
theorem dens_dp {c : Ct} {Hf H : Hp} (s : Same Hf H) : ∀ (ds : List D) (vs : List V), D.depL ds < 1000 → Dens c Hf ds vs → DpAll c.K H vs (pyL ds) ∧ PyData.canLayAll0 (pyL ds) = true
  | [], _, _, h => by cases h; exact ⟨.nil, rfl⟩
  | d :: ds, _, hd, ⟨v, r, e, h1, h2⟩ => by
    subst e
    have hd : max d.dep (D.depL ds) < 1000 := by simpa [D.depL] using hd
    obtain ⟨w1, w2⟩ := den_dp s d v (by omega) h1
    obtain ⟨w3, w4⟩ := dens_dp s ds r (by omega) h2
    exact ⟨.cons w1 w3, by simp [pyL, PyData.canLayAll0, w2, w4]⟩
termination_by structural ds => ds
end
theorem top_dp {c : Ct} {F : Fr} {ρ : Rho} {σ : St} {Hf H : Hp} (r : R c F ρ σ H Hf) {d : D} {v : V} (hd : d.dep ≤ 64) (h : Top c Hf H d v) : Dp c.K H v (py d) ∧ SeqAt.shaped (py d) = true := by
  have sh : (py d).canLay0 = true → SeqAt.shaped (py d) = true := fun h => by
    unfold SeqAt.shaped
    rw [h, py_depth d (by omega)]
    simpa using hd
  cases d with
  | lst l =>
    obtain ⟨a, vs, rfl, h1, h2⟩ := h
    have hd' : D.depL l + 1 ≤ 64 := by simpa [D.dep] using hd
    obtain ⟨w1, w2⟩ := dens_dp r.sub l vs (by omega) h2
    exact ⟨.lst (SqL.of h1) w1, sh w2⟩
  | dic ks ds => simp [D.dep] at hd
  | obj n l => simp [D.dep] at hd
  | scr l => simp [D.dep] at hd
  | adr l => simp [D.dep] at hd
  | _ =>
    obtain ⟨w1, w2⟩ := den_dp r.sub _ _ (by omega) h
    exact ⟨w1, sh w2⟩

/-! ### keys -/
mutual
theorem keyOf_inj : ∀ (a b : D) (k : NestedKey), keyOf a = some k → keyOf b = some k → a = b
  | .non, b, k, h1, h2 => by
    cases b <;> simp_all [keyOf]
    · subst h1; cases h2
    · subst h1; cases h2
    · obtain ⟨x, _, e⟩ := h2; subst h1; cases e
  | .int i, b, k, h1, h2 => by
    cases b <;> simp_all [keyOf]
    · subst h1; cases h2
    · subst h1; injection h2 with h2; exact h2.symm
    · subst h1; cases h2
    · obtain ⟨x, _, e⟩ := h2; subst h1; cases e
  | .str s, b, k, h1, h2 => by
    cases b <;> simp_all [keyOf]
    · subst h1; cases h2
    · subst h1; cases h2
    · subst h1
      injection h2 with h2
      injection h2 with h2
      simpa using h2.symm
    · obtain ⟨x, _, e⟩ := h2; subst h1; cases e
  | .tup l, b, k, h1, h2 => by
    simp [keyOf] at h1
    obtain ⟨x, h1, rfl⟩ := h1
    cases b <;> simp_all [keyOf]
    exact keysOf_inj l _ _ h1 h2
  | .bl _, _, _, h1, _ => by simp [keyOf] at h1
  | .lst _, _, _, h1, _ => by simp [keyOf] at h1
  | .dic _ _, _, _, h1, _ => by simp [keyOf] at h1
  | .obj _ _, _, _, h1, _ => by simp [keyOf] at h1
  | .scr _, _, _, h1, _ => by simp [keyOf] at h1
  | .adr _, _, _, h1, _ => by simp [keyOf] at h1
termination_by structural a => a
theorem keysOf_inj : ∀ (a b : List D) (k : List NestedKey), keysOf a = some k → keysOf b = some k → a = b
  | [], b, k, h1, h2 => by
    simp [keysOf] at h1
    subst h1
    cases b with
    | nil => rfl
    | cons y b =>
      unfold keysOf at h2
      split at h2
      · cases h2
      · cases h2
  | x :: a, b, k, h1, h2 => by
    unfold keysOf at h1
    split at h1
    · rename_i k1 ks1 e1 e2
      cases h1
      cases b with
      | nil => simp [keysOf] at h2
      | cons y b =>
        unfold keysOf at h2
        split at h2
        · rename_i k2 ks2 e3 e4
          cases h2
          rw [keyOf_inj x y _ e1 e3, keysOf_inj a b _ e2 e4]
        · cases h2
    · cases h1
termination_by structural a => a
end
mutual
theorem isKey_some : ∀ d : D, d.isKey = true → ∃ k, keyOf d = some k ∧ k.depth ≤ d.dep
  | .non, _ => ⟨_, rfl, Nat.le_refl _⟩
  | .int _, _ => ⟨_, rfl, Nat.le_refl _⟩
  | .str _, _ => ⟨_, rfl, Nat.le_refl _⟩
  | .tup l, h => by
    obtain ⟨ks, e, hd⟩ := isKeyL_some l (by simpa [D.isKey] using h)
    exact ⟨.tup ks, by simp [keyOf, e], by simp [NestedKey.depth, D.dep]; exact hd⟩
  | .bl _, h => by simp [D.isKey] at h
  | .lst _, h => by simp [D.isKey] at h
  | .dic _ _, h => by simp [D.isKey] at h
  | .obj _ _, h => by simp [D.isKey] at h
  | .scr _, h => by simp [D.isKey] at h
  | .adr _, h => by simp [D.isKey] at h
termination_by structural d => d
theorem isKeyL_some : ∀ l : List D, D.isKeyL l = true → ∃ ks, keysOf l = some ks ∧ NestedKey.depthAll ks ≤ D.depL l
  | [], _ => ⟨[], rfl, Nat.le_refl _⟩
  | x :: l, h => by
    have h : x.isKey = true ∧ D.isKeyL l = true := by simpa [D.isKeyL] using h
    obtain ⟨k, e1, d1⟩ := isKey_some x h.1
    obtain ⟨ks, e2, d2⟩ := isKeyL_some l h.2
    exact ⟨k :: ks, by simp [keysOf, e1, e2], by simp [NestedKey.depthAll, D.depL]; omega⟩
termination_by structural l => l
end
theorem tkey_some {d : D} (h : d.tkey = true) : ∃ ks l, d = .tup l ∧ keysOf l = some ks ∧ keyOf d = some (.tup ks) ∧ (NestedKey.tup ks).depth ≤ 8 := by
  cases d with
  | tup l =>
    have h : D.isKeyL l = true ∧ D.depL l ≤ 6 := by simpa [D.tkey] using h
    obtain ⟨ks, e, hd⟩ := isKeyL_some l h.1
    refine ⟨ks, l, rfl, e, by simp [keyOf, e], ?_⟩
    show NestedKey.depthAll ks + 1 ≤ 8
    omega
  | _ => simp [D.tkey] at h
section
variable {X : Cx} {pins : List (Addr × Obj)} {σ0 : St} {H Hf : Hp} {s : Shared} {W : WX}
mutual
theorem nested_of (I : Inv X pins σ0 H s) (sm : Same Hf H) : ∀ (d : D) (k : NestedKey) (v : V) (u : Value), keyOf d = some k → Den (ctx X) Hf d v → RelV v u → NestedIs s.heap k u
  | .non, k, v, u, e, h, r => by cases e; cases h; cases r; exact .none
  | .int i, k, v, u, e, h, r => by cases e; cases h; obtain ⟨t, rfl⟩ := r; exact .int i t
  | .str x, k, v, u, e, ⟨h, _⟩, r => by cases e; cases h; obtain ⟨t, rfl⟩ := r; exact .text _ t
  | .tup l, k, v, u, e, ⟨a, vs, h, h1, h2⟩, r => by
    simp [keyOf] at e
    obtain ⟨ks, e, rfl⟩ := e
    subst h
    cases r
    obtain ⟨its, rv, ⟨o, ho, hc, n, hd⟩, _⟩ := I.tuple (Same.seqT sm h1)
    exact .tup ho hc hd (nestedL_of I sm l ks vs its e h2 rv)
  | .bl _, k, v, u, e, h, r => by simp [keyOf] at e
  | .lst _, k, v, u, e, h, r => by simp [keyOf] at e
  | .dic _ _, k, v, u, e, h, r => by simp [keyOf] at e
  | .obj _ _, k, v, u, e, h, r => by simp [keyOf] at e
  | .scr _, k, v, u, e, h, r => by simp [keyOf] at e
  | .adr _, k, v, u, e, h, r => by simp [keyOf] at e
termination_by structural d => d
theorem nestedL_of (I : Inv X pins σ0 H s) (sm : Same Hf H) : ∀ (l : List D) (ks : List NestedKey) (vs : List V) (us : List Value), keysOf l = some ks → Dens (ctx X) Hf l vs → Vals vs us → NestedAll s.heap ks us
  | [], ks, vs, us, e, h, r => by
    simp [keysOf] at e
    subst e
    cases h
    cases r
    exact .nil
  | d :: l, ks, vs, us, e, ⟨v, r', q, h1, h2⟩, r => by
    subst q
    unfold keysOf at e
    split at e
    · rename_i k ks' e1 e2
      cases e
      cases r with
      | cons r1 r2 => exact .cons (nested_of I sm d k v _ e1 h1 r1) (nestedL_of I sm l ks' r' _ e2 h2 r2)
    · cases e
termination_by structural l => l
end
theorem key_is (I : Inv X pins σ0 H s) (sm : Same Hf H) {d : D} {v : V} (h : d.tkey = true) (hd : Den (ctx X) Hf d v) : ∃ k a, keyOf d = some k ∧ v = .ref a ∧ (nestedKind X.prog X.w).is s.heap k a := by
  obtain ⟨ks, l, rfl, e, e2, hdep⟩ := tkey_some h
  obtain ⟨a, vs, rfl, h1, h2⟩ := id hd
  exact ⟨_, a, e2, rfl, nested_of I sm _ _ _ _ e2 hd rfl, hdep⟩
/-- the entries of a dict, as the library has them -/
theorem paired_len {α β : Type} {P : α → β → Prop} {l : List α} {m : List β} (h : Paired P l m) : l.length = m.length := Paired.length h
theorem pairs_keys {xs : List (NestedKey × Addr × V)} {ys : List (NestedKey × Addr × Value)} (h : Paired (fun (p : NestedKey × Addr × V) (q : NestedKey × Addr × Value) => p.1 = q.1 ∧ p.2.1 = q.2.1 ∧ RelV p.2.2 q.2.2) xs ys) : ys.map (·.1) = xs.map (·.1) := by
  induction h with
  | nil => rfl
  | cons h t ih => simp [h.1, ih]
theorem dict_at (I : Inv X pins σ0 H s) (sm : Same Hf H) {a : Addr} {xs : List (NestedKey × Addr × V)} {ks : List D} (hH : H a = some (dHO (ctx X) a xs)) (hk : keysOf ks = some (xs.map (·.1)) ∧ ks.all D.tkey = true)
    (hd : Dens (ctx X) Hf ks (xs.map fun x => V.ref x.2.1)) : ∃ ys : List (NestedKey × Addr × Value), s.heap.DictOfH (nestedKind X.prog X.w) a ys ∧ Paired (fun (p : NestedKey × Addr × V) (q : NestedKey × Addr × Value) => p.1 = q.1 ∧ p.2.1 = q.2.1 ∧ RelV p.2.2 q.2.2) xs ys ∧
      (a == sysModules) = false ∧ xs.length ≤ sizeLine := by
  obtain ⟨⟨z1, z2, z3, ys, z4, o, es, ep, z5, z6, z7, z8⟩, _, _⟩ := (show ObjOk X.prog X.w H s.heap a (dHO (ctx X) a xs) from I.hok a _ hH)
  refine ⟨ys, ⟨o, es, ep, z5, z6, z7, z8, ?_, ?_⟩, z4, z1, z2⟩
  · have key : ∀ (xs : List (NestedKey × Addr × V)) (ys : List (NestedKey × Addr × Value)) (ks : List D), Paired (fun (p : NestedKey × Addr × V) (q : NestedKey × Addr × Value) => p.1 = q.1 ∧ p.2.1 = q.2.1 ∧ RelV p.2.2 q.2.2) xs ys → keysOf ks = some (xs.map (·.1)) → ks.all D.tkey = true →
        Dens (ctx X) Hf ks (xs.map fun x => V.ref x.2.1) → ∀ y ∈ ys, (nestedKind X.prog X.w).is s.heap y.1 y.2.1 := by
      intro xs
      induction xs with
      | nil =>
        intro ys ks p _ _ _ y hy
        cases p
        cases hy
      | cons x xs ih =>
        intro ys ks p e al dn y hy
        cases p with
        | cons p1 p2 =>
          rename_i y0 ys0
          cases ks with
          | nil => simp [keysOf] at e
          | cons kd ks =>
            unfold keysOf at e
            split at e
            · rename_i k1 ks1 e1 e2
              simp only [List.map_cons, Option.some.injEq, List.cons.injEq] at e
              obtain ⟨e3, e4⟩ := e
              obtain ⟨v, r, q, w1, w2⟩ := dn
              simp only [List.map_cons, List.cons.injEq] at q
              obtain ⟨q1, q2⟩ := q
              subst q1 q2
              have al : kd.tkey = true ∧ ks.all D.tkey = true := by simpa using al
              rcases List.mem_cons.mp hy with rfl | hy
              · obtain ⟨k, b, w3, w4, w5⟩ := key_is I sm al.1 w1
                rw [e1] at w3
                cases w3
                cases w4
                rw [← p1.1, ← p1.2.1, ← e3]
                exact w5
              · exact ih ys0 ks p2 (by rw [e2, e4]) al.2 w2 y hy
            · cases e
    exact key xs ys ks z4 hk.1 hk.2 hd
  · rw [pairs_keys z4]
    exact z3
/-- what stands at a key -/
theorem dict_get {xs : List (NestedKey × Addr × V)} {ys : List (NestedKey × Addr × Value)} (p : Paired (fun (p : NestedKey × Addr × V) (q : NestedKey × Addr × Value) => p.1 = q.1 ∧ p.2.1 = q.2.1 ∧ RelV p.2.2 q.2.2) xs ys) :
    ∀ {ks ds : List D} {k : D} {nk : NestedKey}, keysOf ks = some (xs.map (·.1)) → Dens (ctx X) Hf ds (xs.map (·.2.2)) → keyOf k = some nk →
      match keyAt k ks ds with
      | some d => ∃ v u, valueAt (pairsH ys) nk = some u ∧ RelV v u ∧ Den (ctx X) Hf d v
      | none => valueAt (pairsH ys) nk = none := by
  induction p with
  | nil =>
    intro ks ds k nk e dn hk
    cases ks with
    | nil =>
      have e0 : keyAt k [] ds = none := by unfold keyAt; rfl
      rw [e0]
      rfl
    | cons x ks =>
      unfold keysOf at e
      split at e <;> cases e
  | @cons x y xs ys h t ih =>
    intro ks ds k nk e dn hk
    cases ks with
    | nil => simp [keysOf] at e
    | cons kd ks =>
      unfold keysOf at e
      split at e
      · rename_i k1 ks1 e1 e2
        simp only [List.map_cons, Option.some.injEq, List.cons.injEq] at e
        obtain ⟨e3, e4⟩ := e
        cases ds with
        | nil => cases dn
        | cons dd ds =>
          obtain ⟨v, r, q, w1, w2⟩ := dn
          simp only [List.map_cons, List.cons.injEq] at q
          obtain ⟨q1, q2⟩ := q
          subst q1 q2
          unfold keyAt
          by_cases hkk : kd = k
          · subst hkk
            rw [e1] at hk
            cases hk
            rw [if_pos rfl]
            refine ⟨_, y.2.2, ?_, h.2.2, w1⟩
            unfold pairsH valueAt
            simp [← h.1, e3]
          · rw [if_neg hkk]
            have ih := ih (ks := ks) (ds := ds) (k := k) (nk := nk) (by rw [e2, e4]) w2 hk
            have hne : y.1 ≠ nk := fun z => hkk (keyOf_inj _ _ nk (by rw [e1, e3, h.1, z]) hk)
            have e5 : valueAt (pairsH (y :: ys)) nk = valueAt (pairsH ys) nk := by
              unfold pairsH valueAt
              simp [hne]
            rw [e5]
            exact ih
      · cases e
end
section
variable {X : Cx} {W : WX}
theorem op_eqX (hu : X.A.units + 64 < cLine) : OpR X (compareOp .Eq) (rOp (ctx X) W (cmpD .eq)) := by
  intro pins s σ0 H x y v u Q I rx ry ⟨F, ρ, σ, Hf, p, q, r, tp, tq, po⟩
  replace po : Post (ctx X) F W σ (dE (ctx X) σ) Q Hf (opt (if eqOk p q then some (.bl (eqD p q)) else none) ρ) := by
    cases p <;> exact po
  split at po
  · rename_i hz
    have hz : p.dep ≤ 64 ∧ q.dep ≤ 64 := by simpa [eqOk] using hz
    obtain ⟨d1, s1⟩ := top_dp r hz.1 tp
    obtain ⟨d2, s2⟩ := top_dp r hz.2 tq
    refine op_eqD hu pins s σ0 H x y v u Q I rx ry ⟨_, _, d1, d2, s1, s2, ?_⟩
    rw [py_eqv p q (by omega) (by omega)]
    exact po _ _ _ r (Same.refl _) rfl
  · exact po.elim
theorem op_neX (hu : X.A.units + 64 < cLine) : OpR X (compareOp .NotEq) (rOp (ctx X) W (cmpD .ne)) := by
  intro pins s σ0 H x y v u Q I rx ry ⟨F, ρ, σ, Hf, p, q, r, tp, tq, po⟩
  replace po : Post (ctx X) F W σ (dE (ctx X) σ) Q Hf (opt (if eqOk p q then some (.bl (!eqD p q)) else none) ρ) := by
    cases p <;> exact po
  split at po
  · rename_i hz
    have hz : p.dep ≤ 64 ∧ q.dep ≤ 64 := by simpa [eqOk] using hz
    obtain ⟨d1, s1⟩ := top_dp r hz.1 tp
    obtain ⟨d2, s2⟩ := top_dp r hz.2 tq
    refine op_neD hu pins s σ0 H x y v u Q I rx ry ⟨_, _, d1, d2, s1, s2, ?_⟩
    rw [py_eqv p q (by omega) (by omega)]
    exact po _ _ _ r (Same.refl _) rfl
  · exact po.elim
theorem op_ltX : OpR X (compareOp .Lt) (rOp (ctx X) W (cmpD .lt)) := by
  intro pins s σ0 H x y v u Q I rx ry ⟨F, ρ, σ, Hf, p, q, r, tp, tq, po⟩
  cases p <;> cases q <;> first | exact po.elim | skip
  exact op_lt pins s σ0 H x y v u Q I rx ry ⟨_, _, tp, tq, po _ _ _ r (Same.refl _) rfl⟩
theorem op_leX : OpR X (compareOp .LtE) (rOp (ctx X) W (cmpD .le)) := by
  intro pins s σ0 H x y v u Q I rx ry ⟨F, ρ, σ, Hf, p, q, r, tp, tq, po⟩
  cases p <;> cases q <;> first | exact po.elim | skip
  exact op_le pins s σ0 H x y v u Q I rx ry ⟨_, _, tp, tq, po _ _ _ r (Same.refl _) rfl⟩
theorem op_gtX : OpR X (compareOp .Gt) (rOp (ctx X) W (cmpD .gt)) := by
  intro pins s σ0 H x y v u Q I rx ry ⟨F, ρ, σ, Hf, p, q, r, tp, tq, po⟩
  cases p <;> cases q <;> first | exact po.elim | skip
  exact op_gt pins s σ0 H x y v u Q I rx ry ⟨_, _, tp, tq, po _ _ _ r (Same.refl _) rfl⟩
theorem op_geX : OpR X (compareOp .GtE) (rOp (ctx X) W (cmpD .ge)) := by
  intro pins s σ0 H x y v u Q I rx ry ⟨F, ρ, σ, Hf, p, q, r, tp, tq, po⟩
  cases p <;> cases q <;> first | exact po.elim | skip
  exact op_ge pins s σ0 H x y v u Q I rx ry ⟨_, _, tp, tq, po _ _ _ r (Same.refl _) rfl⟩
theorem top_non {c : Ct} {Hf H : Hp} {d : D} {v : V} (h : Top c Hf H d v) : decide (v = V.non) = (match d with | .non => true | _ => false) := by
  cases d with
  | non => cases h; rfl
  | bl b => cases h; rfl
  | int b => cases h; rfl
  | str b => cases h.1; rfl
  | adr b => cases h; rfl
  | _ =>
    obtain ⟨a, h⟩ := h
    first
      | (obtain ⟨_, rfl, _⟩ := h; rfl)
      | (obtain ⟨_, _, _, rfl, _⟩ := h; rfl)
      | (obtain ⟨rfl, _⟩ := h; rfl)
theorem op_isnX : OpR X (compareOp .Is) (rOp (ctx X) W (cmpD .isn)) := by
  intro pins s σ0 H x y v u Q I rx ry ⟨F, ρ, σ, Hf, p, q, r, tp, tq, po⟩
  have e := top_non tp
  cases q <;> first | (exfalso; revert po; cases p <;> exact fun po => po.elim) | skip
  refine op_isN pins s σ0 H x y v u Q I rx ry ⟨tq, ?_⟩
  rw [e]
  cases p <;> exact po _ _ _ r (Same.refl _) rfl
theorem op_notnX : OpR X (compareOp .IsNot) (rOp (ctx X) W (cmpD .notn)) := by
  intro pins s σ0 H x y v u Q I rx ry ⟨F, ρ, σ, Hf, p, q, r, tp, tq, po⟩
  have e := top_non tp
  cases q <;> first | (exfalso; revert po; cases p <;> exact fun po => po.elim) | skip
  refine op_notN pins s σ0 H x y v u Q I rx ry ⟨tq, ?_⟩
  rw [e]
  cases p <;> exact po _ _ _ r (Same.refl _) rfl
end
end NV

/-! NV.F: membership, items, slices, truth, built-ins. -/
namespace NV
open PySem PySem.Spec PyProof.Rows L2

section
variable {X : Cx} {W : WX}
theorem depL_any {l : List D} {x : D} (h : D.depL l ≤ 60) (hx : x.dep ≤ 60) : ((pyL l).any fun z => PyData.eqv z (py x)) = l.any fun y => eqD y x := by
  induction l with
  | nil => rfl
  | cons y l ih =>
    have h : max y.dep (D.depL l) ≤ 60 := by simpa [D.depL] using h
    simp only [pyL, List.any_cons]
    rw [py_eqv y x (by omega) (by omega), ih (by omega)]
theorem dep0_flat {c : Ct} {Hf : Hp} : ∀ {d : D} {v : V}, d.dep = 0 → Den c Hf d v → flatV v = true
  | .non, _, _, h => by cases h; rfl
  | .bl _, _, _, h => by cases h; rfl
  | .int _, _, _, h => by cases h; rfl
  | .str _, _, _, h => by cases h.1; rfl
  | .tup _, _, h, _ => by simp [D.dep] at h
  | .lst _, _, h, _ => by simp [D.dep] at h
  | .dic _ _, _, h, _ => by simp [D.dep] at h
  | .obj _ _, _, h, _ => by simp [D.dep] at h
  | .scr _, _, h, _ => by simp [D.dep] at h
theorem flat_eqV {c : Ct} {Hf : Hp} {d e : D} {v w : V} (h1 : d.dep = 0) (h2 : e.dep = 0) (a : Den c Hf d v) (b : Den c Hf e w) : eqV v w = eqD d e := by
  cases d <;> first | (simp [D.dep] at h1; done) | skip
  all_goals (cases e <;> first | (simp [D.dep] at h2; done) | skip)
  all_goals (simp only [Den] at a b)
  all_goals (first | subst a | (obtain ⟨a', _⟩ := a; subst a'))
  all_goals (first | subst b | (obtain ⟨b', _⟩ := b; subst b'))
  all_goals (first | rfl | (simp [eqV, eqD]; done) | (simp [eqV, eqD]; exact Bool.eq_iff_iff.mpr (by simp)))
theorem flat_any {c : Ct} {Hf : Hp} {x : D} {v : V} (hx : x.dep = 0) (dx : Den c Hf x v) : ∀ {l : List D} {vs : List V}, D.depL l = 0 → Dens c Hf l vs → (inV v vs = l.any fun y => eqD y x) ∧ vs.all flatV = true
  | [], _, _, h => by cases h; exact ⟨rfl, rfl⟩
  | d :: l, _, h, ⟨w, r, q, h1, h2⟩ => by
    subst q
    have h : max d.dep (D.depL l) = 0 := by simpa [D.depL] using h
    have e1 : d.dep = 0 := by omega
    obtain ⟨i1, i2⟩ := flat_any hx dx (l := l) (by omega) h2
    refine ⟨?_, by simp [dep0_flat e1 h1, i2]⟩
    show (eqV w v || inV v r) = _
    rw [flat_eqV e1 hx h1 dx, i1]
    rfl
/-- in, by its answer -/
theorem in_core (hu : X.A.units + 65 < cLine) {f : Bool → Bool} {op : CmpOp} (hop : (op = .In ∧ f = id) ∨ (op = .NotIn ∧ f = not)) : OpR X (compareOp op) (rOp (ctx X) W fun a b => (inD a b).map fun r => .bl (f r)) := by
  intro pins s σ0 H x y v u Q I rx ry ⟨F, ρ, σ, Hf, p, q, r, tp, tq, po⟩
  cases q with
  | str z =>
    obtain ⟨hz, gz⟩ := (show Den _ _ _ _ from tq)
    cases p with
    | str w =>
      obtain ⟨hw, gw⟩ := (show Den _ _ _ _ from tp)
      match w, hw, gw, po, tp with
      | [ch], hw, gw, po, tp =>
        have e : decide (ch ∈ (⟨z.toArray⟩ : Str).cps.toList) = z.contains ch := by simp [Bool.eq_iff_iff]
        rcases hop with ⟨rfl, rfl⟩ | ⟨rfl, rfl⟩
        · refine op_in_sign pins s σ0 H x y v u Q I rx ry ⟨ch, _, hw, hz, ?_⟩
          rw [e]
          exact po _ _ _ r (Same.refl _) rfl
        · refine op_notIn_sign pins s σ0 H x y v u Q I rx ry ⟨ch, _, hw, hz, ?_⟩
          rw [e]
          exact po _ _ _ r (Same.refl _) rfl
      | [], _, _, po, _ => exact po.elim
      | _ :: _ :: _, _, _, po, _ => exact po.elim
    | _ => exact po.elim
  | lst l =>
    replace po : Post (ctx X) F W σ (dE (ctx X) σ) Q Hf (opt ((if p.dep ≤ 60 ∧ D.depL l ≤ 60 then some (l.any fun y => eqD y p) else none).map fun r => .bl (f r)) ρ) := by
      cases p <;> exact po
    split at po
    · rename_i hz
      obtain ⟨a, vs, rfl, h1, h2⟩ := tq
      obtain ⟨d1, s1⟩ := top_dp r (by omega) tp
      obtain ⟨w1, w2⟩ := dens_dp r.sub l vs (by omega) h2
      have sh : SeqAt.shaped (.list (pyL l)) = true := by
        unfold SeqAt.shaped
        have e1 : (PyData.list (pyL l)).canLay0 = true := w2
        have e2 : (PyData.list (pyL l)).depth = D.depL l + 1 := by
          show PyData.depthAll (pyL l) + 1 = _
          rw [py_depthL l (by omega)]
        rw [e1, e2]
        simp
        omega
      rcases hop with ⟨rfl, rfl⟩ | ⟨rfl, rfl⟩
      · refine op_inD hu pins s σ0 H x _ v u Q I rx ry ⟨_, _, d1, .lst (SqL.of h1) w1, s1, sh, ?_⟩
        rw [depL_any hz.2 hz.1]
        exact po _ _ _ r (Same.refl _) rfl
      · refine op_notInD hu pins s σ0 H x _ v u Q I rx ry ⟨_, _, d1, .lst (SqL.of h1) w1, s1, sh, ?_⟩
        rw [depL_any hz.2 hz.1]
        exact po _ _ _ r (Same.refl _) rfl
    · exact po.elim
  | tup l =>
    replace po : Post (ctx X) F W σ (dE (ctx X) σ) Q Hf (opt ((if p.dep = 0 ∧ D.depL l = 0 then some (l.any fun y => eqD y p) else none).map fun r => .bl (f r)) ρ) := by
      cases p <;> exact po
    split at po
    · rename_i hz
      obtain ⟨a, vs, rfl, h1, h2⟩ := (show Den _ _ _ _ from tq)
      have dp : Den (ctx X) Hf p x := by
        cases p <;> first | exact tp | (simp [D.dep] at hz; done)
      obtain ⟨i1, i2⟩ := flat_any hz.1 dp hz.2 h2
      rcases hop with ⟨rfl, rfl⟩ | ⟨rfl, rfl⟩
      · refine op_in_seq pins s σ0 H x _ v u Q I rx ry ⟨a, vs, rfl, .inr (Same.seqT r.sub h1), dep0_flat hz.1 dp, i2, ?_⟩
        rw [i1]
        exact po _ _ _ r (Same.refl _) rfl
      · refine op_notIn_seq pins s σ0 H x _ v u Q I rx ry ⟨a, vs, rfl, .inr (Same.seqT r.sub h1), dep0_flat hz.1 dp, i2, ?_⟩
        rw [i1]
        exact po _ _ _ r (Same.refl _) rfl
    · exact po.elim
  | dic ks ds =>
    replace po : Post (ctx X) F W σ (dE (ctx X) σ) Q Hf (opt ((if p.tkey then some (keyAt p ks ds).isSome else none).map fun r => .bl (f r)) ρ) := by
      cases p <;> exact po
    split at po
    · rename_i hz
      obtain ⟨a, xs, rfl, h1, h2, h3, h4⟩ := tq
      cases ry
      have dp : Den (ctx X) Hf p x := by
        cases p <;> first | exact tp | (simp [D.tkey] at hz; done)
      obtain ⟨nk, b, e1, rfl, hk⟩ := key_is I r.sub hz dp
      cases rx
      obtain ⟨ys, w1, w2, w3, w4⟩ := dict_at I r.sub h1 h2 h3
      have g := dict_get (X := X) (Hf := Hf) w2 (k := p) h2.1 h4 e1
      have e : (valueAt (pairsH ys) nk).isSome = (keyAt p ks ds).isSome := by
        cases z : keyAt p ks ds with
        | none => rw [z] at g; rw [g]; rfl
        | some d =>
          rw [z] at g
          obtain ⟨_, _, g1, _⟩ := g
          rw [g1]
          rfl
      have fin : Q (.bl (f (valueAt (pairsH ys) nk).isSome)) H := by
        rw [e]
        exact po _ _ _ r (Same.refl _) rfl
      rcases hop with ⟨rfl, rfl⟩ | ⟨rfl, rfl⟩
      · exact in_keyed (knd := nestedKind X.prog X.w) (by show X.A.units + 1 + 8 < cLine; omega) hk w3 ⟨ys, w1, rfl⟩ ⟨.bl _, H, I.tok _, rfl, fin⟩
      · exact notIn_keyed (knd := nestedKind X.prog X.w) (by show X.A.units + 1 + 8 < cLine; omega) hk w3 ⟨ys, w1, rfl⟩ ⟨.bl _, H, I.tok _, rfl, fin⟩
    · exact po.elim
  | _ => cases p <;> exact po.elim
theorem op_inX (hu : X.A.units + 65 < cLine) : OpR X (compareOp .In) (rOp (ctx X) W (cmpD .isin)) :=
  OpR.imp (in_core (W := W) (f := id) hu (.inl ⟨rfl, rfl⟩)) fun x y H Q ⟨F, ρ, σ, Hf, p, q, r, tp, tq, po⟩ => ⟨F, ρ, σ, Hf, p, q, r, tp, tq, by cases p <;> exact po⟩
theorem op_notInX (hu : X.A.units + 65 < cLine) : OpR X (compareOp .NotIn) (rOp (ctx X) W (cmpD .notin)) :=
  OpR.imp (in_core (W := W) (f := not) hu (.inr ⟨rfl, rfl⟩)) fun x y H Q ⟨F, ρ, σ, Hf, p, q, r, tp, tq, po⟩ => ⟨F, ρ, σ, Hf, p, q, r, tp, tq, by cases p <;> exact po⟩
/-- the comparisons' rules -/
def cmOp : Cm → CmpOp
  | .eq => .Eq | .ne => .NotEq | .lt => .Lt | .le => .LtE | .gt => .Gt | .ge => .GtE | .isin => .In | .notin => .NotIn | .isn => .Is | .notn => .IsNot
theorem op_cm (hu : X.A.units + 65 < cLine) : ∀ o : Cm, OpR X (compareOp (cmOp o)) (rOp (ctx X) W (cmpD o))
  | .eq => op_eqX (by omega) | .ne => op_neX (by omega) | .lt => op_ltX | .le => op_leX | .gt => op_gtX | .ge => op_geX | .isin => op_inX hu | .notin => op_notInX hu | .isn => op_isnX | .notn => op_notnX
def opOp : Op → Operator
  | .add => .Add | .sub => .Sub | .mul => .Mult | .div => .FloorDiv | .mod => .Mod
theorem op_bi : ∀ o : Op, OpR X (binaryOp (opOp o)) (rOp (ctx X) W (binD o))
  | .add => op_addX | .sub => op_subX | .mul => op_mulX | .div => op_divX | .mod => op_modX

/-! ### truth -/
variable {e a b : Expr} {m ma mb mc : ME} {pos : Pos}
theorem s_not (h : Snd X W e m) : Snd X W (.UnaryOp .Not e pos) (.not m) := by
  have h1 : PE X (.UnaryOp .Not e pos) (tv (ctx X) W (ev (.not m))) := by
    refine PE.mono (pe_not h.pe) fun σ H Q ⟨F, ρ, Hf, r, p⟩ => ?_
    have p : Post (ctx X) F W σ (dE (ctx X) σ) Q Hf ((ev m ρ).bind fun x => (match x.1 with | .bl b => .ok (.bl (!b), x.2) | _ => .stuck : Res)) := p
    refine step r p fun d ρ' v H' Hf' r' s' dn p' => ?_
    cases d with
    | bl b => exact ⟨b, dn, p' _ H' Hf' r' (Same.refl _) rfl⟩
    | _ => exact p'.elim
  refine ⟨h1, pp_of h1 (fun i z => nomatch z), PT.mono (pt_not h.pt) fun σ H Q ⟨F, ρ, Hf, r, p⟩ => ?_⟩
  have e1 : evT (ev (.not m)) ρ = (evT (ev m) ρ).bind fun x => .ok (!x.1, x.2) := by
    unfold evT
    show (((ev m ρ).bind fun x => (match x.1 with | .bl b => .ok (.bl (!b), x.2) | _ => .stuck : Res)).bind _ : Out Rho (Bool × Rho)) = _
    cases ev m ρ with
    | stuck => rfl
    | exc _ _ => rfl
    | ok x =>
      obtain ⟨d, ρ'⟩ := x
      cases d <;> rfl
  rw [e1] at p
  refine step r p fun d ρ' v H' Hf' r' s' dn p' => ?_
  subst dn
  exact p' _ H' Hf' r' (Same.refl _) rfl
theorem s_ife {ec ea eb : Expr} (hc : Snd X W ec mc) (ha : Snd X W ea ma) (hb : Snd X W eb mb) : Snd X W (.IfExp ec ea eb pos) (.ife mc ma mb) := by
  have e1 : ∀ ρ, ev (.ife mc ma mb) ρ = (evT (ev mc) ρ).bind fun x => if x.1 then ev ma x.2 else ev mb x.2 := fun ρ => by
    unfold evT
    show ((ev mc ρ).bind fun x => (match x.1 with | .bl true => ev ma x.2 | .bl false => ev mb x.2 | _ => .stuck : Res)) = _
    cases ev mc ρ with
    | stuck => rfl
    | exc _ _ => rfl
    | ok x =>
      obtain ⟨d, ρ'⟩ := x
      cases d with
      | bl b => cases b <;> rfl
      | _ => rfl
  have h1 : PE X (.IfExp ec ea eb pos) (tv (ctx X) W (ev (.ife mc ma mb))) := by
    refine PE.mono (pe_ifExp hc.pt ha.pe hb.pe) fun σ H Q ⟨F, ρ, Hf, r, p⟩ => ?_
    rw [e1] at p
    refine step r p fun d ρ' v H' Hf' r' s' dn p' => ?_
    subst dn
    cases d with
    | true => exact ⟨F, ρ', Hf', r', p'⟩
    | false => exact ⟨F, ρ', Hf', r', p'⟩
  refine ⟨h1, pp_of h1 (fun i z => nomatch z), ⟨fun pins s σ H Q I ⟨F, ρ, Hf, r, p⟩ => ?_⟩⟩
  have e2 : evT (ev (.ife mc ma mb)) ρ = (evT (ev mc) ρ).bind fun x => if x.1 then evT (ev ma) x.2 else evT (ev mb) x.2 := by
    show (ev (.ife mc ma mb) ρ).bind _ = _
    rw [e1]
    cases evT (ev mc) ρ with
    | stuck => rfl
    | exc _ _ => rfl
    | ok x =>
      obtain ⟨d, ρ'⟩ := x
      cases d <;> rfl
  rw [e2] at p
  refine isTrue_IfExp (thn (hc.pt.run pins s σ H (fun b H1 => if b = true then tT (ctx X) W (ev ma) σ H1 Q else tT (ctx X) W (ev mb) σ H1 Q) I ?_) fun b s1 ⟨H1, I1, q1⟩ => ?_)
  · refine step r p fun d ρ' v H' Hf' r' s' dn p' => ?_
    subst dn
    cases d with
    | true => exact ⟨F, ρ', Hf', r', p'⟩
    | false => exact ⟨F, ρ', Hf', r', p'⟩
  · cases b with
    | true => exact ha.pt.run pins s1 σ H1 Q I1 q1
    | false => exact hb.pt.run pins s1 σ H1 Q I1 q1
theorem evAnd_one (m : ME) (ρ : Rho) : evAnd [m] ρ = (ev m ρ).bind fun x => match x.1 with | .bl b => .ok (.bl b, x.2) | _ => .stuck := rfl
theorem evAnd_cons (m m2 : ME) (ms : List ME) (ρ : Rho) : evAnd (m :: m2 :: ms) ρ = (ev m ρ).bind fun x => match x.1 with | .bl b => if b then evAnd (m2 :: ms) x.2 else .ok (.bl false, x.2) | _ => .stuck := rfl
theorem evOr_one (m : ME) (ρ : Rho) : evOr [m] ρ = (ev m ρ).bind fun x => match x.1 with | .bl b => .ok (.bl b, x.2) | _ => .stuck := rfl
theorem evOr_cons (m m2 : ME) (ms : List ME) (ρ : Rho) : evOr (m :: m2 :: ms) ρ = (ev m ρ).bind fun x => match x.1 with | .bl b => if b then .ok (.bl true, x.2) else evOr (m2 :: ms) x.2 | _ => .stuck := rfl
theorem and_pe {es : List Expr} {ms : List ME} (h : SndL X W es ms) (hn : ms ≠ []) : PE X (.BoolOp .And es pos) (tv (ctx X) W (evAnd ms)) := by
  induction h with
  | nil => exact absurd rfl hn
  | @cons e m es ms h hs t ih =>
    cases t with
    | nil =>
      refine PE.mono (pe_one h.pe) fun σ H Q ⟨F, ρ, Hf, r, p⟩ => ?_
      rw [evAnd_one] at p
      refine step r p fun d ρ' v H' Hf' r' s' dn p' => ?_
      cases d with
      | bl b => exact p' _ H' Hf' r' (Same.refl _) dn
      | _ => exact p'.elim
    | @cons e2 m2 es ms h2 hs2 t2 =>
      refine PE.mono (pe_and h.pe (ih (by simp))) fun σ H Q ⟨F, ρ, Hf, r, p⟩ => ?_
      rw [evAnd_cons] at p
      refine step r p fun d ρ' v H' Hf' r' s' dn p' => ?_
      cases d with
      | bl b =>
        refine ⟨b, dn, ?_⟩
        cases b with
        | true => exact ⟨F, ρ', Hf', r', p'⟩
        | false => exact p' _ H' Hf' r' (Same.refl _) rfl
      | _ => exact p'.elim
theorem or_pe {es : List Expr} {ms : List ME} (h : SndL X W es ms) (hn : ms ≠ []) : PE X (.BoolOp .Or es pos) (tv (ctx X) W (evOr ms)) := by
  induction h with
  | nil => exact absurd rfl hn
  | @cons e m es ms h hs t ih =>
    cases t with
    | nil =>
      refine PE.mono (pe_one h.pe) fun σ H Q ⟨F, ρ, Hf, r, p⟩ => ?_
      rw [evOr_one] at p
      refine step r p fun d ρ' v H' Hf' r' s' dn p' => ?_
      cases d with
      | bl b => exact p' _ H' Hf' r' (Same.refl _) dn
      | _ => exact p'.elim
    | @cons e2 m2 es ms h2 hs2 t2 =>
      refine PE.mono (pe_or h.pe (ih (by simp))) fun σ H Q ⟨F, ρ, Hf, r, p⟩ => ?_
      rw [evOr_cons] at p
      refine step r p fun d ρ' v H' Hf' r' s' dn p' => ?_
      cases d with
      | bl b =>
        refine ⟨b, dn, ?_⟩
        cases b with
        | true => exact p' _ H' Hf' r' (Same.refl _) rfl
        | false => exact ⟨F, ρ', Hf', r', p'⟩
      | _ => exact p'.elim
theorem evT_and (m m2 : ME) (ms : List ME) (ρ : Rho) : evT (evAnd (m :: m2 :: ms)) ρ = (evT (ev m) ρ).bind fun x => if x.1 then evT (evAnd (m2 :: ms)) x.2 else .ok (false, x.2) := by
  unfold evT
  rw [evAnd_cons]
  cases ev m ρ with
  | stuck => rfl
  | exc _ _ => rfl
  | ok x =>
    obtain ⟨d, ρ'⟩ := x
    cases d with
    | bl b => cases b <;> rfl
    | _ => rfl
theorem evT_or (m m2 : ME) (ms : List ME) (ρ : Rho) : evT (evOr (m :: m2 :: ms)) ρ = (evT (ev m) ρ).bind fun x => if x.1 then .ok (true, x.2) else evT (evOr (m2 :: ms)) x.2 := by
  unfold evT
  rw [evOr_cons]
  cases ev m ρ with
  | stuck => rfl
  | exc _ _ => rfl
  | ok x =>
    obtain ⟨d, ρ'⟩ := x
    cases d with
    | bl b => cases b <;> rfl
    | _ => rfl
theorem evT_one (m : ME) (ρ : Rho) : evT (evAnd [m]) ρ = evT (ev m) ρ := by
  unfold evT
  rw [evAnd_one]
  cases ev m ρ with
  | stuck => rfl
  | exc _ _ => rfl
  | ok x =>
    obtain ⟨d, ρ'⟩ := x
    cases d <;> rfl
theorem evT_oneO (m : ME) (ρ : Rho) : evT (evOr [m]) ρ = evT (ev m) ρ := by
  unfold evT
  rw [evOr_one]
  cases ev m ρ with
  | stuck => rfl
  | exc _ _ => rfl
  | ok x =>
    obtain ⟨d, ρ'⟩ := x
    cases d <;> rfl
theorem and_pw {es : List Expr} {ms : List ME} (h : SndL X W es ms) (hn : ms ≠ []) : PW X (.BoolOp .And es pos) (tT (ctx X) W (evAnd ms)) := by
  induction h with
  | nil => exact absurd rfl hn
  | @cons e m es ms h hs t ih =>
    cases t with
    | nil =>
      refine PW.mono (pw_and1 h.pt) fun σ H Q ⟨F, ρ, Hf, r, p⟩ => ?_
      rw [evT_one] at p
      exact ⟨F, ρ, Hf, r, p⟩
    | @cons e2 m2 es ms h2 hs2 t2 =>
      refine PW.mono (pw_and h.pt (ih (by simp))) fun σ H Q ⟨F, ρ, Hf, r, p⟩ => ?_
      rw [evT_and] at p
      refine step r p fun d ρ' v H' Hf' r' s' dn p' => ?_
      subst dn
      cases d with
      | true => exact ⟨F, ρ', Hf', r', p'⟩
      | false => exact p' _ H' Hf' r' (Same.refl _) rfl
theorem or_pw {es : List Expr} {ms : List ME} (h : SndL X W es ms) (hn : ms ≠ []) : PW X (.BoolOp .Or es pos) (tT (ctx X) W (evOr ms)) := by
  induction h with
  | nil => exact absurd rfl hn
  | @cons e m es ms h hs t ih =>
    cases t with
    | nil =>
      refine PW.mono (pw_or1 h.pt) fun σ H Q ⟨F, ρ, Hf, r, p⟩ => ?_
      rw [evT_oneO] at p
      exact ⟨F, ρ, Hf, r, p⟩
    | @cons e2 m2 es ms h2 hs2 t2 =>
      refine PW.mono (pw_or h.pt (ih (by simp))) fun σ H Q ⟨F, ρ, Hf, r, p⟩ => ?_
      rw [evT_or] at p
      refine step r p fun d ρ' v H' Hf' r' s' dn p' => ?_
      subst dn
      cases d with
      | true => exact p' _ H' Hf' r' (Same.refl _) rfl
      | false => exact ⟨F, ρ', Hf', r', p'⟩
theorem s_and {es : List Expr} {ms : List ME} (h : SndL X W es ms) (hn : ms ≠ []) : Snd X W (.BoolOp .And es pos) (.and ms) := ⟨and_pe h hn, pp_of (and_pe h hn) (fun i z => nomatch z), (and_pw h hn).pt⟩
theorem s_or {es : List Expr} {ms : List ME} (h : SndL X W es ms) (hn : ms ≠ []) : Snd X W (.BoolOp .Or es pos) (.or ms) := ⟨or_pe h hn, pp_of (or_pe h hn) (fun i z => nomatch z), (or_pw h hn).pt⟩
end
end NV

/-! NV.G: items, slices, fields, built-ins of one argument, dict.get, join. -/
namespace NV
open PySem PySem.Spec PyProof.Rows L2

section
variable {X : Cx} {W : WX} {e a b : Expr} {m ma mb mc : ME} {pos : Pos}
theorem s_neg (h : Snd X W e m) : Snd X W (.UnaryOp .USub e pos) (.neg m) := by
  refine Snd.of (PE.mono (pe_un un_neg h.pe) fun σ H Q ⟨F, ρ, Hf, r, p⟩ => ?_) (fun i z => nomatch z) (fun _ => rfl)
  have p : Post (ctx X) F W σ (dE (ctx X) σ) Q Hf ((ev m ρ).bind fun x => opt (negD x.1) x.2) := p
  refine step r p fun d ρ' v H' Hf' r' s' dn p' => ?_
  cases d with
  | int i => exact ⟨i, dn, p' _ H' Hf' r' (Same.refl _) rfl⟩
  | _ => exact p'.elim
theorem s_chn {ea eb ec : Expr} {o o' : Cm} (hu : X.A.units + 65 < cLine) (ha : Snd X W ea ma) (hb : Snd X W eb mb) (hc : Snd X W ec mc) (hm : lastMarks [cmOp o, cmOp o'] [eb, ec] = false) : Snd X W (.Compare ea [cmOp o, cmOp o'] [eb, ec] pos) (.chn o o' ma mb mc) := by
  have core : ∀ {α : Type} {β : Type} {dnZ : α → β → Hp → Prop} {Q2 : β → Hp → Prop} {Q' : VK} {σ H F ρ Hf} {f : D × Rho → Out Rho (α × Rho)}, R (ctx X) F ρ σ H Hf → Post (ctx X) F W σ dnZ Q2 Hf ((ev (.chn o o' ma mb mc) ρ).bind f) →
      (∀ Hf', Same Hf Hf' → ∀ {ρ' d}, Post (ctx X) F W σ dnZ Q2 Hf' ((opt d ρ').bind f) → Post (ctx X) F W σ (dE (ctx X) σ) Q' Hf' (opt d ρ')) → tChain (rOp (ctx X) W (cmpD o)) (rOp (ctx X) W (cmpD o')) (tv (ctx X) W (ev ma)) (tv (ctx X) W (ev mb)) (tv (ctx X) W (ev mc)) σ H Q' := by
    intro α β dnZ Q2 Q' σ H F ρ Hf f r p k
    have assoc : ∀ {α β γ : Type} (o : Out Rho α) (g : α → Out Rho β) (h : β → Out Rho γ), (o.bind g).bind h = o.bind fun x => (g x).bind h := fun o g h => by cases o <;> rfl
    have p : Post (ctx X) F W σ dnZ Q2 Hf (((ev ma ρ).bind fun x => (ev mb x.2).bind fun y => match cmpD o x.1 y.1 with
      | some (.bl true) => (ev mc y.2).bind fun z => opt (cmpD o' y.1 z.1) z.2
      | some (.bl false) => .ok (.bl false, y.2)
      | _ => .stuck).bind f) := p
    rw [assoc] at p
    refine step r p fun d ρ1 v H1 Hf1 r1 s1 dn1 p1 => ?_
    rw [assoc] at p1
    refine step r1 p1 fun d2 ρ2 v2 H2 Hf2 r2 s2 dn2 p2 => ?_
    dsimp only at p2
    have t1 := Top.of_den r2.sub (Den.mono s2 _ _ dn1)
    have t2 := Top.of_den r2.sub dn2
    refine ⟨F, ρ2, σ, Hf2, d, d2, r2, t1, t2, ?_⟩
    cases q : cmpD o d d2 with
    | none => rw [q] at p2; exact p2.elim
    | some z =>
      rw [q] at p2
      cases z with
      | bl b =>
        cases b with
        | true =>
          intro vv H' Hf' r' s' dn'
          refine ⟨true, dn', ?_⟩
          have p2 : Post (ctx X) F W σ dnZ Q2 Hf2 (((ev mc ρ2).bind fun z => opt (cmpD o' d2 z.1) z.2).bind f) := p2
          rw [assoc] at p2
          refine step r' (Post.mono s' p2) fun d3 ρ3 v3 H3 Hf3 r3 s3 dn3 p3 => ?_
          exact ⟨F, ρ3, σ, Hf3, d2, d3, r3, Top.of_den r3.sub (Den.mono (s'.trans s3) _ _ dn2), Top.of_den r3.sub dn3, k _ (((s1.trans s2).trans s').trans s3) p3⟩
        | false =>
          intro vv H' Hf' r' s' dn'
          refine ⟨false, dn', ?_⟩
          have p2 : Post (ctx X) F W σ dnZ Q2 Hf2 ((opt (some (.bl false)) ρ2).bind f) := p2
          exact k _ (s1.trans s2) p2 _ H' Hf' r' s' rfl
      | _ => exact p2.elim
  have bid : ∀ {α : Type} (o : Out Rho α), o.bind .ok = o := fun o => by cases o <;> rfl
  have h1 : PE X (.Compare ea [cmOp o, cmOp o'] [eb, ec] pos) (tv (ctx X) W (ev (.chn o o' ma mb mc))) := by
    refine PE.mono (pe_chain (op_cm (W := W) hu o) (op_cm (W := W) hu o') ha.pe hb.pe hc.pe hm) fun σ H Q ⟨F, ρ, Hf, r, p⟩ => ?_
    refine core (f := .ok) r (by rw [bid]; exact p) fun Hf' s ρ' d p' => ?_
    rw [bid] at p'
    exact p'
  refine ⟨h1, pp_of h1 (fun i z => nomatch z), ?_⟩
  refine PT.mono (pt_chain (op_cm (W := W) hu o) (op_cm (W := W) hu o') ha.pe hb.pe hc.pe hm) fun σ H Q ⟨F, ρ, Hf, r, p⟩ => ?_
  have p : Post (ctx X) F W σ (dI σ) Q Hf ((ev (.chn o o' ma mb mc) ρ).bind fun x => (match x.1 with | .bl b => .ok (b, x.2) | _ => .stuck : Out Rho (Bool × Rho))) := p
  show tChain _ _ _ _ _ σ H fun x H1 => ∃ c, x = .bl c ∧ Q c H1
  refine core r p fun Hf' s ρ' d p' => ?_
  cases d with
  | none => exact p'.elim
  | some d =>
    cases d with
    | bl b =>
      intro v H' Hf2 r2 s2 dn
      exact ⟨b, dn, p' b H' Hf2 r2 s2 rfl⟩
    | _ => exact p'.elim
/-! ### items -/
theorem ixD_atI {α : Type} (l : List α) (i : Int) : ixD l i = atI l i := by
  unfold ixD atI ixN
  by_cases h : 0 ≤ i
  · rw [if_pos h, if_pos h]
    by_cases h2 : i < l.length
    · rw [if_pos h2]
      rfl
    · rw [if_neg h2, List.getElem?_eq_none (by omega)]
      rfl
  · rw [if_neg h, if_neg h]
    by_cases h2 : -(l.length : Int) ≤ i
    · rw [if_pos h2, if_pos h2]
      rfl
    · rw [if_neg h2, if_neg h2]
      rfl
theorem ixD_den {c : Ct} {Hf : Hp} {l : List D} {vs : List V} {i : Int} {d : D} (h : Dens c Hf l vs) (e : ixD l i = some d) : ∃ v, atI vs i = some v ∧ Den c Hf d v := by
  rw [ixD_atI] at e
  unfold atI at e ⊢
  rw [← Dens.length h]
  cases q : ixN l.length i with
  | none => rw [q] at e; cases e
  | some j =>
    rw [q] at e
    exact Dens.get h e
theorem ix_X (hu : X.A.units + 65 < cLine) : IxR X (rOp (ctx X) W idxD) := by
  intro value slice pins s σ0 H x y v u Q I rx ry ⟨F, ρ, σ, Hf, p, q, r, tp, tq, po⟩ hs
  cases p with
  | lst l =>
    cases q with
    | int i =>
      obtain ⟨a, vs, rfl, h1, h2⟩ := tp
      replace po : Post (ctx X) F W σ (dE (ctx X) σ) Q Hf (opt (ixD l i) ρ) := po
      cases z : ixD l i with
      | none => rw [z] at po; exact po.elim
      | some d =>
        rw [z] at po
        obtain ⟨w, e1, e2⟩ := ixD_den h2 z
        exact ix_list value slice pins s σ0 H _ y v u Q I rx ry ⟨a, vs, i, w, rfl, tq, SqL.of h1, e1, po _ _ _ r (Same.refl _) e2⟩ hs
    | _ => exact po.elim
  | tup l =>
    cases q with
    | int i =>
      obtain ⟨a, vs, rfl, h1, h2⟩ := (show Den _ _ _ _ from tp)
      replace po : Post (ctx X) F W σ (dE (ctx X) σ) Q Hf (opt (ixD l i) ρ) := po
      cases z : ixD l i with
      | none => rw [z] at po; exact po.elim
      | some d =>
        rw [z] at po
        obtain ⟨w, e1, e2⟩ := ixD_den h2 z
        exact ix_tup value slice pins s σ0 H _ y v u Q I rx ry ⟨a, vs, i, w, rfl, tq, Same.seqT r.sub h1, e1, po _ _ _ r (Same.refl _) e2⟩ hs
    | _ => exact po.elim
  | scr l =>
    cases q with
    | int i =>
      obtain ⟨a, rfl, h1⟩ := (show Den _ _ _ _ from tp)
      replace po : Post (ctx X) F W σ (dE (ctx X) σ) Q Hf (opt ((ixD l i).map .int) ρ) := po
      cases z : ixD l i with
      | none => rw [z] at po; exact po.elim
      | some d =>
        rw [z] at po
        have e1 : atI (l.map V.int) i = some (.int d) := by
          rw [ixD_atI] at z
          unfold atI at z ⊢
          rw [List.length_map]
          cases q : ixN l.length i with
          | none => rw [q] at z; cases z
          | some j =>
            rw [q] at z
            show (l.map V.int)[j]? = _
            rw [List.getElem?_map, show l[j]? = some d from z]
            rfl
        exact ix_list value slice pins s σ0 H _ y v u Q I rx ry ⟨a, _, i, _, rfl, tq, L2.Same.seq r.sub h1, e1, po _ _ _ r (Same.refl _) rfl⟩ hs
    | _ => exact po.elim
  | str l =>
    cases q with
    | int i =>
      obtain ⟨rfl, g⟩ := (show Den _ _ _ _ from tp)
      replace po : Post (ctx X) F W σ (dE (ctx X) σ) Q Hf (opt ((ixD l i).map fun c => .str [c]) ρ) := po
      cases z : ixD l i with
      | none => rw [z] at po; exact po.elim
      | some d =>
        rw [z] at po
        have hm : d ∈ l := by
          rw [ixD_atI] at z
          unfold atI at z
          cases q : ixN l.length i with
          | none => rw [q] at z; cases z
          | some j => rw [q] at z; exact List.mem_of_getElem? z
        refine ix_str value slice pins s σ0 H _ y v u Q I rx ry ⟨_, i, d, rfl, tq, ?_, ?_, po _ _ _ r (Same.refl _) ⟨rfl, ?_, ?_⟩⟩ hs
        · rw [sizeLine_eq]
          simpa [Str.length] using g.1
        · rw [ixD_atI] at z
          simpa using z
        · show 1 ≤ 16777216
          decide
        · intro x hx
          have : x = d := by simpa using hx
          rw [this]
          exact g.2 d hm
    | _ => exact po.elim
  | dic ks ds =>
    replace po : Post (ctx X) F W σ (dE (ctx X) σ) Q Hf (opt (if q.tkey then keyAt q ks ds else none) ρ) := by
      cases q <;> exact po
    split at po
    · rename_i hz
      obtain ⟨a, xs, rfl, h1, h2, h3, h4⟩ := tp
      cases rx
      have dp : Den (ctx X) Hf q y := by
        cases q <;> first | exact tq | (simp [D.tkey] at hz; done)
      obtain ⟨nk, b, e1, rfl, hk⟩ := key_is I r.sub hz dp
      cases ry
      obtain ⟨ys, w1, w2, w3, w4⟩ := dict_at I r.sub h1 h2 h3
      have g := dict_get (X := X) (Hf := Hf) w2 (k := q) h2.1 h4 e1
      cases z : keyAt q ks ds with
      | none => rw [z] at po; exact po.elim
      | some d =>
        rw [z] at po g
        obtain ⟨v', u', g1, g2, g3⟩ := g
        exact tail_any w1.typeIs PySem.F.slot_dict_getitem.lookup (getItem_keyed (knd := nestedKind X.prog X.w) (by show X.A.units + 1 + 8 < cLine; omega) hk ⟨ys, w1, rfl⟩ g1 ⟨v', H, I.tok _, g2, po _ _ _ r (Same.refl _) g3⟩) hs
    · exact po.elim
  | _ => cases q <;> exact po.elim
theorem s_idx {ea eb : Expr} (hu : X.A.units + 65 < cLine) (ha : Snd X W ea ma) (hb : Snd X W eb mb) (hp : PlainIx eb) : Snd X W (.Subscript ea eb pos) (.idx ma mb) := by
  refine Snd.of (PE.mono (pe_ix (ix_X (W := W) hu) ha.pp hb.pp hp) fun σ H Q ⟨F, ρ, Hf, r, p⟩ => ?_) (fun i z => nomatch z) (fun _ => rfl)
  have p : Post (ctx X) F W σ (dE (ctx X) σ) Q Hf ((pre ma (ev ma) ρ).bind fun x => (pre mb (ev mb) x.2).bind fun y => match fin ma x.1 y.2, fin mb y.1 y.2 with
    | some p, some q => opt (idxD p q) y.2
    | _, _ => .stuck) := p
  refine step r p fun d ρ1 v H1 Hf1 r1 s1 dn1 p1 => ?_
  refine step r1 p1 fun d2 ρ2 v2 H2 Hf2 r2 s2 dn2 p2 => ?_
  dsimp only at p2
  split at p2
  · rename_i x y e1 e2
    exact ⟨F, ρ2, σ, Hf2, x, y, r2, top_fin r2 s2 dn1 e1, top_fin r2 (Same.refl _) dn2 e2, p2⟩
  · exact p2.elim
/-! ### slices -/
inductive SndO (X : Cx) (W : WX) : Option Expr → List ME → Prop where
  | none : SndO X W none []
  | some {e : Expr} {m : ME} (h : Snd X W e m) : SndO X W (some e) [m]
theorem SndO.po {o : Option Expr} {l : List ME} (h : SndO X W o l) : PO X o (tvG (ctx X) W dI (evPart l)) := by
  cases h with
  | none => exact ⟨fun pins s σ H Q I ⟨F, ρ, Hf, r, p⟩ => po_none.run pins s σ H Q I (p Option.none H Hf r (Same.refl _) rfl)⟩
  | @some e m h =>
    refine ⟨fun pins s σ H Q I ⟨F, ρ, Hf, r, p⟩ => (po_some h.pe).run pins s σ H Q I ?_⟩
    have p : Post (ctx X) F W σ (dI σ) Q Hf ((ev m ρ).bind fun x => (match x.1 with | .int i => .ok (Option.some i, x.2) | _ => .stuck : Out Rho (Option Int × Rho))) := p
    refine step r p fun d ρ' v H' Hf' r' s' dn p' => ?_
    cases d with
    | int i => exact ⟨i, dn, p' _ H' Hf' r' (Same.refl _) rfl⟩
    | _ => exact p'.elim
theorem cut_vs (vs : List V) (lo hi : Option Int) : cutV vs lo hi = cutD vs lo hi := rfl
theorem cut_den {c : Ct} {Hf : Hp} {l : List D} {vs : List V} (lo hi : Option Int) (h : Dens c Hf l vs) : Dens c Hf (cutD l lo hi) (cutV vs lo hi) := by
  unfold cutD cutV
  rw [Dens.length h]
  exact Dens.take _ (Dens.drop _ h)
def rSlX (c : Ct) (W : WX) : V → Option Int → Option Int → Hp → VK → Prop := fun x lo hi H Q => ∃ F ρ σ Hf p, R c F ρ σ H Hf ∧ Top c Hf H p x ∧ Post c F W σ (dE c σ) Q Hf (opt (slD p lo hi) ρ)
theorem cut_all {α : Type} {l : List α} {lo hi : Option Int} (h : HT.sIx l.length 0 lo = 0 ∧ HT.sIx l.length l.length hi = l.length) : cutD l lo hi = l := by
  unfold cutD
  rw [h.1, h.2]
  simp
theorem sl_X : SlR X (rSlX (ctx X) W) := by
  intro pins s σ0 H x v vl vu lo hi sl Q I rx hs pl pu ⟨F, ρ, σ, Hf, p, r, tp, po⟩
  cases p with
  | lst l =>
    obtain ⟨a, vs, rfl, h1, h2⟩ := tp
    replace po : Post (ctx X) F W σ (dE (ctx X) σ) Q Hf (.ok (.lst (cutD l lo hi), ρ)) := po
    refine sl_list pins s σ0 H _ v vl vu lo hi sl Q I rx hs pl pu ⟨a, vs, rfl, SqL.of h1, fun t ht => ?_⟩
    obtain ⟨r2, s2⟩ := r.alloc ht (.lst (cutV vs lo hi))
    exact po _ _ _ r2 s2 ⟨t, _, rfl, upd_same, Dens.mono s2 _ _ (cut_den lo hi h2)⟩
  | tup l =>
    obtain ⟨a, vs, rfl, h1, h2⟩ := (show Den _ _ _ _ from tp)
    replace po : Post (ctx X) F W σ (dE (ctx X) σ) Q Hf (.ok (.tup (cutD l lo hi), ρ)) := po
    refine sl_tupA pins s σ0 H _ v vl vu lo hi sl Q I rx hs pl pu ⟨a, vs, rfl, Same.seqT r.sub h1, fun e => ?_, fun e t ht => ?_⟩
    · rw [← Dens.length h2] at e
      rw [cut_all e] at po
      exact po _ _ _ r (Same.refl _) ⟨a, vs, rfl, h1, h2⟩
    · obtain ⟨r2, s2⟩ := r.alloc ht (.tup (cutV vs lo hi))
      exact po _ _ _ r2 s2 ⟨t, _, rfl, .inl (.inl upd_same), Dens.mono s2 _ _ (cut_den lo hi h2)⟩
  | scr l =>
    obtain ⟨a, rfl, h1⟩ := (show Den _ _ _ _ from tp)
    replace po : Post (ctx X) F W σ (dE (ctx X) σ) Q Hf (.ok (.lst ((cutD l lo hi).map .int), ρ)) := po
    refine sl_list pins s σ0 H _ v vl vu lo hi sl Q I rx hs pl pu ⟨a, _, rfl, L2.Same.seq r.sub h1, fun t ht => ?_⟩
    obtain ⟨r2, s2⟩ := r.alloc ht (.lst (cutV (l.map V.int) lo hi))
    refine po _ _ _ r2 s2 ⟨t, _, rfl, upd_same, ?_⟩
    have e1 : cutV (l.map V.int) lo hi = (cutD l lo hi).map V.int := by
      unfold cutV cutD
      rw [List.length_map, List.map_take, List.map_drop]
    rw [e1]
    have key : ∀ l : List Int, Dens (ctx X) (upd Hf t (.lst (cutV (l.map V.int) lo hi))) (l.map D.int) (l.map V.int) := fun l => by
      suffices ∀ (H : Hp) (l : List Int), Dens (ctx X) H (l.map D.int) (l.map V.int) from this _ l
      intro H l
      induction l with
      | nil => rfl
      | cons x l ih => exact ⟨_, _, rfl, rfl, ih⟩
    have key2 : ∀ (H : Hp) (l : List Int), Dens (ctx X) H (l.map D.int) (l.map V.int) := fun H l => by
      induction l with
      | nil => rfl
      | cons x l ih => exact ⟨_, _, rfl, rfl, ih⟩
    exact key2 _ _
  | str l =>
    obtain ⟨rfl, g⟩ := (show Den _ _ _ _ from tp)
    replace po : Post (ctx X) F W σ (dE (ctx X) σ) Q Hf (.ok (.str (cutD l lo hi), ρ)) := po
    refine sl_str pins s σ0 H _ v vl vu lo hi sl Q I rx hs pl pu ⟨_, rfl, ?_, po _ _ _ r (Same.refl _) ⟨?_, ?_, ?_⟩⟩
    · rw [sizeLine_eq]
      simpa [Str.length] using g.1
    · unfold cutS cutD
      simp [Str.length]
    · unfold cutD
      rw [List.length_take, List.length_drop]
      have := g.1
      omega
    · intro x hx
      unfold cutD at hx
      exact g.2 x (List.mem_of_mem_drop (List.mem_of_mem_take hx))
  | _ => exact po.elim
theorem s_sl {ea : Expr} {lo hi : Option Expr} {ml mh : List ME} {p2 : Pos} (ha : Snd X W ea ma) (hl : SndO X W lo ml) (hh : SndO X W hi mh) : Snd X W (.Subscript ea (.Slice lo hi none p2) pos) (.sl ma ml mh) := by
  refine Snd.of (PE.mono (pe_slice (sl_X (W := W)) ha.pp hl.po hh.po) fun σ H Q ⟨F, ρ, Hf, r, p⟩ => ?_) (fun i z => nomatch z) (fun _ => rfl)
  have p : Post (ctx X) F W σ (dE (ctx X) σ) Q Hf ((pre ma (ev ma) ρ).bind fun x => (evPart ml x.2).bind fun y => (evPart mh y.2).bind fun z => match fin ma x.1 z.2 with
    | some p => opt (slD p y.1 z.1) z.2
    | none => .stuck) := p
  refine step r p fun d ρ1 v H1 Hf1 r1 s1 dn1 p1 => ?_
  refine step r1 p1 fun d2 ρ2 v2 H2 Hf2 r2 s2 dn2 p2 => ?_
  subst dn2
  refine step r2 p2 fun d3 ρ3 v3 H3 Hf3 r3 s3 dn3 p3 => ?_
  subst dn3
  dsimp only at p3
  split at p3
  · rename_i x e1
    exact ⟨F, ρ3, σ, Hf3, x, r3, top_fin r3 (s2.trans s3) dn1 e1, p3⟩
  · exact p3.elim
end
end NV

/-! NV.H: built-ins of one argument, isinstance, fields, dict.get, join. -/
namespace NV
open PySem PySem.Spec PyProof.Rows L2

/-- the class Machine's facts, or it is not there -/
structure MachAt (c : Ct) (C : Addr) : Prop where
  mg : c.mg (Str.ofString "Machine") = some (.ref C)
  cl : Cls c.K C
  ha : PySem.W.findIn c.K (.ref C) "__class__" = some (some (.builtin "object.__class__"))
  hn : PySem.W.specialIn c.K (.builtin "object.__class__") "__get__" = some (some (.builtin "getset_descriptor.__get__"))
  htk : PySem.W.takesIn c.K (.builtin "object.__class__") = some true
  hm : PySem.W.mroIn c.K C (.type "object") = some true
  k1 : ∀ t ∈ tyL, PySem.W.kitOne c.K (.ref C) (.type t) = some false
  k2 : ∀ n ∈ ["NoneType", "bool", "int", "str", "list", "tuple", "dict"], PySem.W.kitOne c.K (.type n) (.ref C) = some false
  fl : ∀ f ∈ flds "Machine", NoAttr c.K C f
def MachOk (c : Ct) : Prop := c.mg (Str.ofString "Machine") = none ∨ ∃ C, MachAt c C
section
variable {X : Cx} {W : WX} {e a b : Expr} {m ma mb mc : ME} {pos : Pos}
/-- a built-in of one argument, by its data -/
def rB1 (c : Ct) (W : WX) (f : D → Option D) : List V → Hp → VK → Prop := fun xs H Q => ∃ F ρ σ Hf p x, xs = [x] ∧ R c F ρ σ H Hf ∧ Top c Hf H p x ∧ Post c F W σ (dE c σ) Q Hf (opt (f p) ρ)
theorem call_lenX : CallR X (.builtin "len") (rB1 (ctx X) W (b1D .len)) := by
  intro pins s σ0 H xs us Q I rv ⟨F, ρ, σ, Hf, p, x, ex, r, tp, po⟩
  subst ex
  have sz := sizeLine_eq
  cases p with
  | str l =>
    obtain ⟨rfl, g⟩ := (show Den _ _ _ _ from tp)
    refine call_len pins s σ0 H _ us Q I rv ⟨_, l.length, rfl, ⟨?_, ?_⟩, po _ _ _ r (Same.refl _) rfl⟩
    · rw [sz]; simpa [Str.length] using g.1
    · simp [Str.length]
  | lst l =>
    obtain ⟨a, vs, rfl, h1, h2⟩ := tp
    exact call_len pins s σ0 H _ us Q I rv ⟨_, l.length, rfl, .inl ⟨vs, SqL.of h1, Dens.length h2⟩, po _ _ _ r (Same.refl _) rfl⟩
  | tup l =>
    obtain ⟨a, vs, rfl, h1, h2⟩ := (show Den _ _ _ _ from tp)
    exact call_len pins s σ0 H _ us Q I rv ⟨_, l.length, rfl, .inr ⟨vs, Same.seqT r.sub h1, Dens.length h2⟩, po _ _ _ r (Same.refl _) rfl⟩
  | scr l =>
    obtain ⟨a, rfl, h1⟩ := (show Den _ _ _ _ from tp)
    exact call_len pins s σ0 H _ us Q I rv ⟨_, l.length, rfl, .inl ⟨_, L2.Same.seq r.sub h1, by simp⟩, po _ _ _ r (Same.refl _) rfl⟩
  | dic ks ds =>
    obtain ⟨a, xs, rfl, h1, h2, h3, h4⟩ := tp
    obtain ⟨u, rfl, ru⟩ := vals1 rv
    cases ru
    obtain ⟨ys, w1, w2, w3, w4⟩ := dict_at I r.sub h1 h2 h3
    have e1 : xs.length = ks.length := by
      have := Dens.length h3
      rw [List.length_map] at this
      exact this.symm
    have e2 : (pairsH ys).length = ks.length := by
      rw [pairsH_length, ← e1]
      exact (paired_len w2).symm
    have e3 : ys.length = ks.length := by rw [← e2, pairsH_length]
    refine call_len_slot (n := (ys.length : Int)) w1.typeIs PySem.F.slot_dict_len (fun Q' hq => len_keyed w3 ⟨ys, w1, rfl⟩ (by rw [pairsH_length]; exact hq)) (by omega) (by omega) ?_
    refine ⟨.int ys.length, H, I.tok _, ⟨_, rfl⟩, ?_⟩
    rw [e3]
    exact po _ _ _ r (Same.refl _) rfl
  | _ => exact po.elim
theorem allBl_den {c : Ct} {Hf : Hp} : ∀ {l : List D} {vs : List V} {bs : List Bool}, allBl l = some bs → Dens c Hf l vs → vs = bs.map V.bl
  | [], vs, bs, e, h => by
    cases h
    cases e
    rfl
  | d :: l, vs, bs, e, h => by
    obtain ⟨v, r, rfl, h1, h2⟩ := h
    cases d with
    | bl b =>
      have e : (allBl l).map (b :: ·) = some bs := e
      cases q : allBl l with
      | none => rw [q] at e; cases e
      | some bs' =>
        rw [q] at e
        cases e
        rw [allBl_den q h2]
        cases h1
        rfl
    | _ => cases e
theorem call_allX (hc : X.calm = true) : CallR X (.builtin "all") (rB1 (ctx X) W (b1D .all)) := by
  intro pins s σ0 H xs us Q I rv ⟨F, ρ, σ, Hf, p, x, ex, r, tp, po⟩
  subst ex
  cases p with
  | lst l =>
    obtain ⟨a, vs, rfl, h1, h2⟩ := tp
    replace po : Post (ctx X) F W σ (dE (ctx X) σ) Q Hf (opt ((allBl l).map fun bs => .bl (bs.all id)) ρ) := po
    cases q : allBl l with
    | none => rw [q] at po; exact po.elim
    | some bs =>
      rw [q] at po
      exact cr_all hc pins s σ0 H _ us Q I rv ⟨a, bs, rfl, SqL.of (by rw [← allBl_den q h2]; exact h1), po _ _ _ r (Same.refl _) rfl⟩
  | _ => exact po.elim
theorem call_anyX (hc : X.calm = true) : CallR X (.builtin "any") (rB1 (ctx X) W (b1D .any)) := by
  intro pins s σ0 H xs us Q I rv ⟨F, ρ, σ, Hf, p, x, ex, r, tp, po⟩
  subst ex
  cases p with
  | lst l =>
    obtain ⟨a, vs, rfl, h1, h2⟩ := tp
    replace po : Post (ctx X) F W σ (dE (ctx X) σ) Q Hf (opt ((allBl l).map fun bs => .bl (bs.any id)) ρ) := po
    cases q : allBl l with
    | none => rw [q] at po; exact po.elim
    | some bs =>
      rw [q] at po
      exact cr_any hc pins s σ0 H _ us Q I rv ⟨a, bs, rfl, SqL.of (by rw [← allBl_den q h2]; exact h1), po _ _ _ r (Same.refl _) rfl⟩
  | _ => exact po.elim
theorem call_intX : CallR X (.type "int") (rB1 (ctx X) W (b1D .int)) := by
  intro pins s σ0 H xs us Q I rv ⟨F, ρ, σ, Hf, p, x, ex, r, tp, po⟩
  subst ex
  cases p with
  | int i =>
    cases tp
    exact call_int1 pins s σ0 H _ us Q I rv (.inl ⟨i, rfl, po _ _ _ r (Same.refl _) rfl⟩)
  | bl b =>
    cases tp
    exact call_int1 pins s σ0 H _ us Q I rv (.inr ⟨b, rfl, po _ _ _ r (Same.refl _) rfl⟩)
  | _ => exact po.elim
theorem call_tupleX : CallR X (.type "tuple") (rB1 (ctx X) W (b1D .tuple)) := by
  intro pins s σ0 H xs us Q I rv ⟨F, ρ, σ, Hf, p, x, ex, r, tp, po⟩
  subst ex
  cases p with
  | lst l =>
    obtain ⟨a, vs, rfl, h1, h2⟩ := tp
    refine call_tuple_of pins s σ0 H _ us Q I rv ⟨a, vs, rfl, .inl ⟨SqL.of h1, fun t ht => ?_⟩⟩
    obtain ⟨r2, s2⟩ := r.alloc ht (.tup vs)
    exact po _ _ _ r2 s2 ⟨t, vs, rfl, .inl (.inl upd_same), Dens.mono s2 _ _ h2⟩
  | tup l =>
    obtain ⟨a, vs, rfl, h1, h2⟩ := (show Den _ _ _ _ from tp)
    exact call_tuple_of pins s σ0 H _ us Q I rv ⟨a, vs, rfl, .inr ⟨Same.seqT r.sub h1, po _ _ _ r (Same.refl _) ⟨a, vs, rfl, h1, h2⟩⟩⟩
  | _ => exact po.elim
/-- list(..): a new list -/
def rB1F (c : Ct) (W : WX) (f : D → Option D) : List V → Hp → VK → Prop := fun xs H Q => ∃ F ρ σ Hf p x, xs = [x] ∧ R c F ρ σ H Hf ∧ Top c Hf H p x ∧ PostF c F W σ Q Hf (opt (f p) ρ)
theorem ints_den {c : Ct} (H : Hp) (l : List Int) : Dens c H (l.map D.int) (l.map V.int) := by
  induction l with
  | nil => rfl
  | cons x l ih => exact ⟨_, _, rfl, rfl, ih⟩
theorem call_listX : CallR X (.type "list") (rB1F (ctx X) W fun d => match d with | .lst l => some (.lst l) | .tup l => some (.lst l) | .scr l => some (.lst (l.map .int)) | _ => none) := by
  intro pins s σ0 H xs us Q I rv ⟨F, ρ, σ, Hf, p, x, ex, r, tp, po⟩
  subst ex
  cases p with
  | lst l =>
    obtain ⟨a, vs, rfl, h1, h2⟩ := tp
    exact call_list_of pins s σ0 H _ us Q I rv ⟨a, vs, rfl, .inl (SqL.of h1), fun t ht => PostF.new r po ht ⟨(r.free ht).1, vs, upd_same, h2⟩⟩
  | tup l =>
    obtain ⟨a, vs, rfl, h1, h2⟩ := (show Den _ _ _ _ from tp)
    exact call_list_of pins s σ0 H _ us Q I rv ⟨a, vs, rfl, .inr (Same.seqT r.sub h1), fun t ht => PostF.new r po ht ⟨(r.free ht).1, vs, upd_same, h2⟩⟩
  | scr l =>
    obtain ⟨a, rfl, h1⟩ := (show Den _ _ _ _ from tp)
    exact call_list_of pins s σ0 H _ us Q I rv ⟨a, _, rfl, .inl (L2.Same.seq r.sub h1), fun t ht => PostF.new r po ht ⟨(r.free ht).1, _, upd_same, ints_den _ _⟩⟩
  | _ => exact po.elim
/-- the argument of such a call -/
theorem s_b1arg {b : B1} (h : SndL X W [e] [m]) : ∀ σ H Q, tv (ctx X) W (ev (.b1 b m)) σ H Q → tCB (rB1 (ctx X) W (b1D b)) (tvG (ctx X) W (dPs (ctx X) [m]) (pres [m])) σ H Q := fun σ H Q ⟨F, ρ, Hf, r, p⟩ => by
  have p : Post (ctx X) F W σ (dE (ctx X) σ) Q Hf ((pre m (ev m) ρ).bind fun x => match fin m x.1 x.2 with
    | some d => opt (b1D b d) x.2
    | none => .stuck) := p
  have e1 : ((pre m (ev m) ρ).bind fun x => match fin m x.1 x.2 with | some d => opt (b1D b d) x.2 | none => .stuck) = (pres [m] ρ).bind fun y => match finL [m] y.1 y.2 with | some [d] => opt (b1D b d) y.2 | _ => .stuck := by
    show _ = ((pre m (ev m) ρ).bind fun x => (Out.ok ([], x.2)).bind fun y => .ok (x.1 :: y.1, y.2)).bind _
    cases pre m (ev m) ρ with
    | stuck => rfl
    | exc _ _ => rfl
    | ok x =>
      show (match fin m x.1 x.2 with | some d => opt (b1D b d) x.2 | none => .stuck) = (match finL [m] [x.1] x.2 with | some [d] => opt (b1D b d) x.2 | _ => .stuck)
      unfold finL
      cases fin m x.1 x.2 <;> rfl
  rw [e1] at p
  refine step r p fun os ρ' vs H' Hf' r' s' dn p' => ?_
  dsimp only at p'
  split at p'
  · rename_i d e2
    cases tops_finL r' (Same.refl _) dn e2 with
    | cons t1 t2 =>
      cases t2
      exact ⟨F, ρ', σ, Hf', d, _, rfl, r', t1, p'⟩
  · exact p'.elim
theorem s_b1F {b : B1} {f : D → Option D} (hf : ∀ d d', b1D b d = some d' → f d = some d') (h : SndL X W [e] [m]) (hb : ∀ d, b1D b d ≠ none → f d ≠ none) : ∀ σ H Q, tvF (ctx X) W (ev (.b1 b m)) σ H Q → tCB (rB1F (ctx X) W f) (tvG (ctx X) W (dPs (ctx X) [m]) (pres [m])) σ H Q := fun σ H Q ⟨F, ρ, Hf, r, p⟩ => by
  have e1 : ev (.b1 b m) ρ = (pres [m] ρ).bind fun y => match finL [m] y.1 y.2 with | some [d] => opt (b1D b d) y.2 | _ => .stuck := by
    show ((pre m (ev m) ρ).bind fun x => match fin m x.1 x.2 with | some d => opt (b1D b d) x.2 | none => .stuck) = ((pre m (ev m) ρ).bind fun x => (Out.ok ([], x.2)).bind fun y => .ok (x.1 :: y.1, y.2)).bind _
    cases pre m (ev m) ρ with
    | stuck => rfl
    | exc _ _ => rfl
    | ok x =>
      show (match fin m x.1 x.2 with | some d => opt (b1D b d) x.2 | none => .stuck) = (match finL [m] [x.1] x.2 with | some [d] => opt (b1D b d) x.2 | _ => .stuck)
      unfold finL
      cases fin m x.1 x.2 <;> rfl
  rw [e1] at p
  refine stepF r p fun os ρ' vs H' Hf' r' s' dn p' => ?_
  dsimp only at p'
  split at p'
  · rename_i d e2
    cases tops_finL r' (Same.refl _) dn e2 with
    | cons t1 t2 =>
      cases t2
      refine ⟨F, ρ', σ, Hf', d, _, rfl, r', t1, ?_⟩
      cases q : b1D b d with
      | none => rw [q] at p'; exact p'.elim
      | some d' =>
        rw [q] at p'
        rw [hf d d' q]
        exact p'
  · exact p'.elim
/-- the built-ins that are served, and how they are called -/
theorem s_b1 {b : B1} {p : Pos} {nm : Str} {id : String} (h : SndL X W [e] [m]) (hc : CallR X (.builtin id) (rB1 (ctx X) W (b1D b))) (hg : Gl X nm) (hm : X.mg nm = none) (hv : bootBuiltins nm = some (.builtin id))
    (hn : nm ≠ "__name__") (hd : (nm == ("__debug__" : Str)) = false) (he : starEach [e] X.env = (false, eval e X.env) :: starEach [] X.env) : Snd X W (.Call (.Name nm p) [e] [] pos) (.b1 b m) :=
  Snd.of (PE.mono (pe_callB hc hg hm hv h.pps hn hd he) (s_b1arg h)) (fun i z => nomatch z) (fun _ => rfl)
theorem s_b1T {b : B1} {p : Pos} {nm : Str} {T : String} (h : SndL X W [e] [m]) (hc : CallR X (.type T) (rB1 (ctx X) W (b1D b))) (hg : Gl X nm) (hm : X.mg nm = none) (hv : bootBuiltins nm = some (.type T))
    (hn : nm ≠ "__name__") (hd : (nm == ("__debug__" : Str)) = false) (he : starEach [e] X.env = (false, eval e X.env) :: starEach [] X.env) : Snd X W (.Call (.Name nm p) [e] [] pos) (.b1 b m) :=
  Snd.of (PE.mono (pe_callTy hc hg hm hv h.pps hn hd he) (s_b1arg h)) (fun i z => nomatch z) (fun _ => rfl)
/-! ### isinstance -/
theorem kit_all : ∀ n ∈ ["NoneType", "bool", "int", "str", "list", "tuple", "dict"], ∀ t ∈ tyL, kitB n t = some (isiB n t) := by decide +kernel
def rIsX (c : Ct) (W : WX) (t : String) (tv : V) : List V → Hp → VK → Prop := fun xs H Q => ∃ F ρ σ Hf p x, xs = [x, tv] ∧ R c F ρ σ H Hf ∧ Top c Hf H p x ∧ Post c F W σ (dE c σ) Q Hf (opt ((isiD p t).map .bl) ρ)
theorem isi_core (hM : MachOk (ctx X)) {t : String} {cv : V} {cu : Value} (hc : ClsV cv cu)
    (hk : (t ∈ tyL ∧ cu = .type t) ∨ (t = "Machine" ∧ ∃ C, MachAt (ctx X) C ∧ cu = .ref C)) : CallR X (.builtin "isinstance") (rIsX (ctx X) W t cv) := by
  intro pins s σ0 H xs us Q I rv ⟨F, ρ, σ, Hf, p, x, ex, r, tp, po⟩
  subst ex
  have base : ∀ {n : String}, tyN p = some n → n ∈ ["NoneType", "bool", "int", "str", "list", "tuple", "dict"] → ∃ b, PySem.W.kitOne X.K (.type n) cu = some b ∧ (∀ (H' : Hp), H' = H → Q (.bl b) H') := fun {n} hn hm => by
    have e1 : isiD p t = if t = "Machine" then some false else if t ∈ tyL then some (isiB n t) else none := by
      cases p <;> first | (cases hn; rfl) | cases hn
    rw [e1] at po
    rcases hk with ⟨ht, rfl⟩ | ⟨rfl, C, M, rfl⟩
    · have hne : t ≠ "Machine" := fun z => by
        subst z
        revert ht
        decide
      rw [if_neg hne, if_pos ht] at po
      exact ⟨_, kit_ty (kit_all n hm t ht), fun H' e => by subst e; exact po _ _ _ r (Same.refl _) rfl⟩
    · rw [if_pos rfl] at po
      exact ⟨_, M.k2 n hm, fun H' e => by subst e; exact po _ _ _ r (Same.refl _) rfl⟩
  have go : ∀ {n : String}, tyN p = some n → n ∈ ["NoneType", "bool", "int", "str", "list", "tuple", "dict"] → TyX X.K H x (.type n) → wpAny (model X.prog X.w) X.A (call (.builtin "isinstance") us) (EP X pins σ0 Q) X.xe s := fun {n} hn hm ty => by
    obtain ⟨b, e, q⟩ := base hn hm
    exact call_isi pins s σ0 H _ us Q I rv ⟨x, cv, _, cu, b, rfl, hc, ty, e, q _ rfl⟩
  cases p with
  | non => cases tp; exact go rfl (by decide) (.base .non)
  | bl b => cases tp; exact go rfl (by decide) (.base (.bl b))
  | int i => cases tp; exact go rfl (by decide) (.base (.int i))
  | str l => obtain ⟨rfl, _⟩ := (show Den _ _ _ _ from tp); exact go rfl (by decide) (.base (.str _))
  | lst l =>
    obtain ⟨a, vs, rfl, h1, h2⟩ := tp
    exact go rfl (by decide) (.base (.lst h1))
  | tup l =>
    obtain ⟨a, vs, rfl, h1, h2⟩ := (show Den _ _ _ _ from tp)
    refine go rfl (by decide) ?_
    rcases Same.seqT r.sub h1 with (h | ⟨o, h⟩) | ⟨o, its, n, hk, hc, _⟩
    · exact .base (.tup h)
    · exact .fTuple h
    · exact .kTuple hk hc
  | scr l =>
    obtain ⟨a, rfl, h1⟩ := (show Den _ _ _ _ from tp)
    refine go rfl (by decide) ?_
    rcases L2.Same.seq r.sub h1 with (h | ⟨o, h⟩) | ⟨o, its, n, hk, hc, _⟩
    · exact .base (.lst h)
    · exact .base (.frz h)
    · exact .kList hk hc
  | dic ks ds =>
    obtain ⟨a, xs, rfl, h1, h2, h3, h4⟩ := tp
    obtain ⟨b, e, q⟩ := base (n := "dict") rfl (by decide)
    obtain ⟨u1, u2, rfl, r1, r2⟩ := vals2 rv
    cases (show u1 = Value.ref a from r1)
    have e2 := hc.eq r2
    subst e2
    obtain ⟨⟨z1, z2, z3, ys, z4, o, es, ep, z5, z6, z7, z8⟩, _, _⟩ := (show ObjOk X.prog X.w H s.heap a (dHO (ctx X) a xs) from I.hok a _ h1)
    exact PySem.W.kia_one PySem.W.kitx_dict I.kIn ⟨o, z5, z6.1⟩ e (fun z => nomatch z) fun tk => ⟨.bl b, H, I.tok tk, rfl, q _ rfl⟩
  | adr a => exact po.elim
  | obj n l =>
    obtain ⟨a, C, dx, fs, rfl, h1, h2, h3, h4⟩ := (show Den _ _ _ _ from tp)
    have e1 : isiD (.obj n l) t = if n = "Machine" then (if t = "Machine" then some true else if t ∈ tyL then some false else none) else none := rfl
    rw [e1] at po
    split at po
    · rename_i hn
      subst hn
      rcases hM with hM | ⟨C2, M⟩
      · rw [hM] at h1
        cases h1
      · have := M.mg
        rw [h1] at this
        cases this
        have ty : TyX X.K H (.ref a) (.ref C) := .base (.ins (r.sub _ _ h2) M.cl M.ha M.hn M.htk M.hm)
        rcases hk with ⟨ht, rfl⟩ | ⟨rfl, C3, M3, rfl⟩
        · have hne : t ≠ "Machine" := fun z => by
            subst z
            revert ht
            decide
          rw [if_neg hne, if_pos ht] at po
          exact call_isi pins s σ0 H _ us Q I rv ⟨_, cv, _, _, false, rfl, hc, ty, M.k1 t ht, po _ _ _ r (Same.refl _) rfl⟩
        · rw [if_pos rfl] at po
          have := M3.mg
          rw [h1] at this
          cases this
          have e : PySem.W.kitOne X.K (.ref C) (.ref C) = some true := by
            unfold PySem.W.kitOne
            rw [if_pos (by simp)]
          exact call_isi pins s σ0 H _ us Q I rv ⟨_, cv, _, _, true, rfl, hc, ty, e, po _ _ _ r (Same.refl _) rfl⟩
    · exact po.elim
theorem s_isi {p : Pos} {te : Expr} {t : String} {cv : V} {cu : Value} (hM : MachOk (ctx X)) (h : Snd X W e m) (ht : PE X te (tC cv)) (hc : ClsV cv cu) (hk : (t ∈ tyL ∧ cu = .type t) ∨ (t = "Machine" ∧ ∃ C, MachAt (ctx X) C ∧ cu = .ref C))
    (hg : Gl X "isinstance") (hm : X.mg "isinstance" = none) (he : starEach [e, te] X.env = [(false, eval e X.env), (false, eval te X.env)]) (he2 : starEach [te] X.env = [(false, eval te X.env)]) :
    Snd X W (.Call (.Name "isinstance" p) [e, te] [] pos) (.isi m t) := by
  have pa : PA X [e, te] (tCons (tP (ctx X) W m) (tCons (tC cv) tNil)) := pa_cons h.pp (pa_cons ht pa_nil (by rw [he2]; rfl)) (by rw [he, he2])
  refine Snd.of (PE.mono (pe_callB (isi_core (W := W) hM hc hk) hg hm boot_isinstance pa (by decide) (by decide) (by rw [he, he2]) (by rw [he2]; rfl)) fun σ H Q ⟨F, ρ, Hf, r, p⟩ => ?_) (fun i z => nomatch z) (fun _ => rfl)
  have p : Post (ctx X) F W σ (dE (ctx X) σ) Q Hf ((pre m (ev m) ρ).bind fun x => match fin m x.1 x.2 with
    | some d => opt ((isiD d t).map .bl) x.2
    | none => .stuck) := p
  refine step r p fun d ρ1 v H1 Hf1 r1 s1 dn1 p1 => ?_
  dsimp only at p1
  split at p1
  · rename_i d' e1
    exact ⟨F, ρ1, σ, Hf1, d', v, rfl, r1, top_fin r1 (Same.refl _) dn1 e1, p1⟩
  · exact p1.elim
end
end NV

/-! NV.I: fields, dict.get, constant dicts, join. -/
namespace NV
open PySem PySem.Spec PyProof.Rows L2

section
variable {X : Cx} {W : WX} {e a b : Expr} {m ma mb mc : ME} {pos : Pos}
theorem lookup_at {fs : List (Str × V)} {f : Str} {v : V} : ∀ {k : Nat}, (fs.map (·.1)).Nodup → (fs.map (·.1))[k]? = some f → (fs.map (·.2))[k]? = some v → fs.lookup f = some v := by
  induction fs with
  | nil => intro k _ h; simp at h
  | cons p fs ih =>
    intro k nd h1 h2
    obtain ⟨f', v'⟩ := p
    cases k with
    | zero =>
      simp at h1 h2
      subst h1 h2
      simp
    | succ k =>
      have nd : f' ∉ fs.map (·.1) ∧ (fs.map (·.1)).Nodup := List.nodup_cons.mp nd
      have h1 : (fs.map (·.1))[k]? = some f := by simpa using h1
      have hne : f ≠ f' := fun z => nd.1 (z ▸ List.mem_of_getElem? h1)
      have : (f == f') = false := by simpa using hne
      simp only [List.lookup_cons, this]
      exact ih nd.2 h1 (by simpa using h2)
/-- what the classes of the objects must have -/
def ClsOk (c : Ct) : Prop := ∀ (n : String) (C : Addr), flds n ≠ [] → c.mg (Str.ofString n) = some (.ref C) → Cls c.K C ∧ ∀ f ∈ flds n, NoAttr c.K C f
theorem s_fld {n : String} {k : Nat} {f : Str} (hC : ClsOk (ctx X)) (h : Snd X W e m) (hf : (flds n)[k]? = some f) (hnd : (flds n).Nodup) (hb : attributeBase e f X.env (eval e X.env) = eval e X.env)
    (he : ∀ whole, isTrue (.Attribute e f pos) X.env whole = (do let v ← whole; standAt (Expr.Attribute e f pos).pos; holding [v] (truthy v))) : Snd X W (.Attribute e f pos) (.fld n k m) := by
  refine Snd.of (PE.mono (pe_fld h.pp hb) fun σ H Q ⟨F, ρ, Hf, r, p⟩ => ?_) (fun i z => nomatch z) he
  have p : Post (ctx X) F W σ (dE (ctx X) σ) Q Hf ((pre m (ev m) ρ).bind fun x => match fin m x.1 x.2 with
    | some (.obj c' l) => if n = c' then opt l[k]? x.2 else .stuck
    | _ => .stuck) := p
  refine step r p fun d ρ1 v H1 Hf1 r1 s1 dn1 p1 => ?_
  dsimp only at p1
  split at p1
  · rename_i c' l e1
    split at p1
    · rename_i hc
      subst hc
      obtain ⟨a, C, dx, fs, rfl, h1, h2, h3, h4⟩ := (show Den _ _ (.obj n l) _ from top_fin r1 (Same.refl _) dn1 e1)
      cases q : l[k]? with
      | none => rw [q] at p1; exact p1.elim
      | some d' =>
        rw [q] at p1
        obtain ⟨w, w1, w2⟩ := Dens.get h4 q
        have hne : flds n ≠ [] := fun z => by rw [z] at hf; simp at hf
        obtain ⟨c1, c2⟩ := hC n C hne h1
        exact ⟨a, C, dx, fs, w, rfl, r1.sub _ _ h2, c1, c2 f (List.mem_of_getElem? hf), lookup_at (by rw [h3]; exact hnd) (by rw [h3]; exact hf) w1, p1 _ _ _ r1 (Same.refl _) w2⟩
    · exact p1.elim
  · exact p1.elim
/-! ### d.get(k, x) -/
theorem s_get {o k x : Expr} {mo mk mx : ME} {apos cpos : Pos} (hu : X.A.units + 65 < cLine) (ho : Snd X W o mo) (hk : Snd X W k mk) (hx : Snd X W x mx) (M : M2 X o "get" apos k x cpos) : Snd X W (.Call (.Attribute o "get" apos) [k, x] [] cpos) (.get mo mk mx) := by
  refine Snd.of ⟨fun pins s σ H Q I ⟨F, ρ, Hf, r, p⟩ => ?_⟩ (fun i z => nomatch z) (fun _ => rfl)
  have p : Post (ctx X) F W σ (dE (ctx X) σ) Q Hf ((pre mo (ev mo) ρ).bind fun x => match fin mo x.1 x.2 with
    | some (.dic _ _) => (ev mk x.2).bind fun y => (ev mx y.2).bind fun z => match fin mo x.1 z.2 with
      | some (.dic ks vs) => if y.1.tkey then .ok ((keyAt y.1 ks vs).getD z.1, z.2) else .stuck
      | _ => .stuck
    | _ => .stuck) := p
  have h1 : tP (ctx X) W mo σ H fun v H1 => ∃ F ρ1 Hf1 o, R (ctx X) F ρ1 σ H1 Hf1 ∧ dP (ctx X) mo σ o v Hf1 ∧ ∃ ks vs, fin mo o ρ1 = some (.dic ks vs) ∧ Post (ctx X) F W σ (dE (ctx X) σ) Q Hf1 ((ev mk ρ1).bind fun y => (ev mx y.2).bind fun z => match fin mo o z.2 with
      | some (.dic ks vs) => if y.1.tkey then .ok ((keyAt y.1 ks vs).getD z.1, z.2) else .stuck
      | _ => .stuck) := by
    refine step r p fun d ρ1 v H1 Hf1 r1 s1 dn1 p1 => ?_
    dsimp only at p1
    split at p1
    · rename_i ks vs e1
      exact ⟨F, ρ1, Hf1, d, r1, dn1, ks, vs, e1, p1⟩
    · exact p1.elim
  refine wpAny_Call_method M.base M.few M.line PySem.F.plainAttrs_dict PySem.F.slot_dict_get PySem.F.type_dict_get (thn (ho.pp.run pins s σ H _ I h1) fun u s1 ⟨v, H1, I1, rx, F, ρ1, Hf1, o, r1, dn1, ks, vs, e1, p1⟩ => ?_)
  obtain ⟨a, xs, rfl, t1, t2, t3, t4⟩ := (show Top _ _ _ (.dic ks vs) _ from top_fin r1 (Same.refl _) dn1 e1)
  cases rx
  obtain ⟨ys, w1, w2, w3, w4⟩ := dict_at I1 r1.sub t1 t2 t3
  refine ⟨w1.typeIs, fun b q => ?_, ?_⟩
  · cases q
    obtain ⟨ob, _, _, z1, z2, _⟩ := w1
    exact ⟨ob, z1, z2.2.1⟩
  rw [M.trees]
  have h2 : tv (ctx X) W (ev mk) σ H1 fun y H2 => ∃ F ρ2 Hf2 kd, R (ctx X) F ρ2 σ H2 Hf2 ∧ Den (ctx X) Hf2 kd y ∧ dP (ctx X) mo σ o (.ref a) Hf2 ∧ Post (ctx X) F W σ (dE (ctx X) σ) Q Hf2 ((ev mx ρ2).bind fun z => match fin mo o z.2 with
      | some (.dic ks vs) => if kd.tkey then .ok ((keyAt kd ks vs).getD z.1, z.2) else .stuck
      | _ => .stuck) := by
    refine step r1 p1 fun d ρ2 v H2 Hf2 r2 s2 dn2 p2 => ?_
    exact ⟨F, ρ2, Hf2, d, r2, dn2, dP.mono s2 dn1, p2⟩
  refine Calls.callWith_builtin rfl (Calls.evalArgs_plain (Calls.spliced_cons (thn (hk.pe.run pins s1 σ H1 _ I1 h2) fun iv s2 ⟨y, H2, I2, ry, F, ρ2, Hf2, kd, r2, dk, dn2, p2⟩ =>
    Calls.spliced_cons (thn (hx.pe.run pins s2 σ H2 (fun z H3 => ∃ F ρ3 Hf3 zd ks vs, R (ctx X) F ρ3 σ H3 Hf3 ∧ Den (ctx X) Hf3 kd y ∧ Den (ctx X) Hf3 zd z ∧ Top (ctx X) Hf3 H3 (.dic ks vs) (.ref a) ∧ kd.tkey = true ∧ Post (ctx X) F W σ (dE (ctx X) σ) Q Hf3 (.ok ((keyAt kd ks vs).getD zd, ρ3))) I2 ?_) fun fv s3 ⟨z, H3, I3, rz, F, ρ3, Hf3, zd, ks3, vs3, r3, dk3, dz, tp, htk, p3⟩ => Calls.spliced_nil ?_))))
  · refine step r2 p2 fun d ρ3 v H3 Hf3 r3 s3 dn3 p3 => ?_
    dsimp only at p3
    split at p3
    · rename_i ks3 vs3 e3
      split at p3
      · rename_i htk
        exact ⟨F, ρ3, Hf3, d, ks3, vs3, r3, Den.mono s3 _ _ dk, dn3, top_fin r3 s3 dn2 e3, htk, p3⟩
      · exact p3.elim
    · exact p3.elim
  · obtain ⟨a', xs3, q, t1, t2, t3, t4⟩ := tp
    cases q
    obtain ⟨nk, b, e4, rfl, hkk⟩ := key_is I3 r3.sub htk dk3
    cases ry
    obtain ⟨ys, w1, w2, w3, w4⟩ := dict_at I3 r3.sub t1 t2 t3
    have g := dict_get (X := X) (Hf := Hf3) w2 (k := kd) t2.1 t4 e4
    refine getOr_keyed (knd := nestedKind X.prog X.w) (by show X.A.units + 1 + 8 < cLine; omega) hkk w3 ⟨ys, w1, rfl⟩ ?_
    cases q : keyAt kd ks3 vs3 with
    | none =>
      rw [q] at g p3
      rw [g]
      exact ⟨z, H3, I3.tok _, rz, p3 _ _ _ r3 (Same.refl _) dz⟩
    | some d =>
      rw [q] at g p3
      obtain ⟨v', u', g1, g2, g3⟩ := g
      rw [g1]
      exact ⟨v', H3, I3.tok _, g2, p3 _ _ _ r3 (Same.refl _) g3⟩
/-! ### join -/
theorem joinL_eq (s : List Nat) : ∀ l, joinL s l = TL.joinL s l
  | [] => rfl
  | [_] => rfl
  | x :: y :: l => by
    show x ++ s ++ joinL s (y :: l) = x ++ (s ++ TL.joinL s (y :: l))
    rw [joinL_eq s (y :: l), List.append_assoc]
theorem allStr_den {c : Ct} {Hf : Hp} : ∀ {l : List D} {vs : List V} {ss : List (List Nat)}, allStr l = some ss → Dens c Hf l vs → vs = (ss.map fun s => (⟨s.toArray⟩ : Str)).map V.str ∧ ∀ s ∈ ss, strGood s
  | [], vs, bs, e, h => by
    cases h
    cases e
    exact ⟨rfl, fun _ h => by cases h⟩
  | d :: l, vs, bs, e, h => by
    obtain ⟨v, r, rfl, h1, h2⟩ := h
    cases d with
    | str b =>
      have e : (allStr l).map (b :: ·) = some bs := e
      cases q : allStr l with
      | none => rw [q] at e; cases e
      | some bs' =>
        rw [q] at e
        cases e
        obtain ⟨i1, i2⟩ := allStr_den q h2
        obtain ⟨h1, g⟩ := h1
        refine ⟨by rw [i1, h1]; rfl, fun s hs => ?_⟩
        rcases List.mem_cons.mp hs with rfl | hs
        · exact g
        · exact i2 s hs
    | _ => cases e
theorem joinL_len (s : List Nat) : ∀ l : List (List Nat), (joinL s l).length ≤ (l.map List.length).sum + l.length * s.length
  | [] => by simp [joinL]
  | [x] => by simp [joinL]
  | x :: y :: l => by
    have ih := joinL_len s (y :: l)
    have e : (y :: l).length = l.length + 1 := rfl
    simp only [joinL, List.length_append, List.map_cons, List.sum_cons, List.length_cons, Nat.add_mul, Nat.one_mul] at ih ⊢
    omega
theorem joinL_mem (s : List Nat) {c : Nat} : ∀ l : List (List Nat), c ∈ joinL s l → c ∈ s ∨ ∃ x ∈ l, c ∈ x
  | [], h => by cases h
  | [x], h => .inr ⟨x, by simp, h⟩
  | x :: y :: l, h => by
    have h : c ∈ x ++ s ++ joinL s (y :: l) := h
    rcases List.mem_append.mp h with h | h
    · rcases List.mem_append.mp h with h | h
      · exact .inr ⟨x, by simp, h⟩
      · exact .inl h
    · rcases joinL_mem s (y :: l) h with h | ⟨z, hz, h⟩
      · exact .inl h
      · exact .inr ⟨z, List.mem_cons_of_mem _ hz, h⟩
theorem s_join {o : Expr} {mo : ME} {apos : Pos} (ho : Snd X W o mo) (he : Snd X W e m) (hs : starEach [e] X.env = [(false, eval e X.env)]) (hb : attributeBase o "join" X.env (eval o X.env) = eval o X.env) (hl : (apos.endLine == pos.line) = true) :
    Snd X W (.Call (.Attribute o "join" apos) [e] [] pos) (.join mo m) := by
  refine Snd.of (PE.mono (pe_join ho.pe he.pp hs hb hl) fun σ H Q ⟨F, ρ, Hf, r, p⟩ => ?_) (fun i z => nomatch z) (fun _ => rfl)
  have p : Post (ctx X) F W σ (dE (ctx X) σ) Q Hf ((ev mo ρ).bind fun x => match x.1 with
    | .str s => (pre m (ev m) x.2).bind fun y => match fin m y.1 y.2 with
      | some (.lst l) => match allStr l with
        | some ls => if (ls.map List.length).sum + ls.length * s.length ≤ 16777216 then .ok (.str (joinL s ls), y.2) else .stuck
        | none => .stuck
      | _ => .stuck
    | _ => .stuck) := p
  refine step r p fun d ρ1 v H1 Hf1 r1 s1 dn1 p1 => ?_
  dsimp only at p1
  split at p1
  · rename_i sl
    obtain ⟨rfl, g⟩ := dn1
    refine ⟨⟨_, rfl⟩, ?_⟩
    refine step r1 p1 fun d2 ρ2 v2 H2 Hf2 r2 s2 dn2 p2 => ?_
    dsimp only at p2
    split at p2
    · rename_i l e1
      split at p2
      · rename_i ls e2
        split at p2
        · rename_i hz
          obtain ⟨a, vs, rfl, h1, h2⟩ := (show Top _ _ _ (.lst l) _ from top_fin r2 (Same.refl _) dn2 e1)
          obtain ⟨e3, gs⟩ := allStr_den e2 h2
          refine ⟨_, a, ls.map fun s => (⟨s.toArray⟩ : Str), rfl, rfl, .inl (SqL.of (by rw [← e3]; exact h1)), ?_, ?_⟩
          · have e4 : (ls.map fun s => (⟨s.toArray⟩ : Str)).map (·.length) = ls.map List.length := by
              rw [List.map_map]
              refine List.map_congr_left fun x _ => ?_
              simp [Str.length]
            rw [e4, List.length_map]
            simpa [Str.length] using hz
          · have e5 : Txt.join (⟨sl.toArray⟩ : Str) (ls.map fun s => (⟨s.toArray⟩ : Str)) = ⟨(joinL sl ls).toArray⟩ := by
              rw [joinL_eq]
              exact _root_.SX.join_S sl ls
            rw [e5]
            refine p2 _ _ _ r2 (Same.refl _) ⟨rfl, Nat.le_trans (joinL_len sl ls) hz, fun x hx => ?_⟩
            rcases joinL_mem sl ls hx with h | ⟨z, hz, h⟩
            · exact g.2 x h
            · exact (gs z hz).2 x h
        · exact p2.elim
      · exact p2.elim
    · exact p2.elim
  · exact p1.elim
/-! ### constant dicts -/
/-- a written dict of texts and ints -/
inductive KVs (X : Cx) (pos : Pos) : List (Option Expr) → List Expr → List (List Nat) → List Int → Prop where
  | nil : KVs X pos [] [] [] []
  | cons {k v : Expr} {ks : List (Option Expr)} {vs : List Expr} {s : List Nat} {i : Int} {ss : List (List Nat)} {is : List Int} (hk : PE X k (tC (.str ⟨s.toArray⟩))) (hv : PE X v (tC (.int i))) (t : KVs X pos ks vs ss is) : KVs X pos (some k :: ks) (v :: vs) (s :: ss) (i :: is)
theorem KVs.pps {ks : List (Option Expr)} {vs : List Expr} {ss : List (List Nat)} {is : List Int} (h : KVs X pos ks vs ss is) : PPs X pos ks vs ((ss.zip is).map fun p => (tC (V.str ⟨p.1.toArray⟩), tC (V.int p.2))) := by
  induction h with
  | nil => exact pps_nil
  | cons hk hv t ih => exact pps_cons hk hv ih
theorem KVs.len {ks : List (Option Expr)} {vs : List Expr} {ss : List (List Nat)} {is : List Int} (h : KVs X pos ks vs ss is) : ks.all (·.isSome) = true ∧ ks.length = vs.length ∧ ks.length = ss.length ∧ ss.length = is.length := by
  induction h with
  | nil => exact ⟨rfl, rfl, rfl, rfl⟩
  | cons hk hv t ih => exact ⟨by simp [ih.1], by simp [ih.2.1], by simp [ih.2.2.1], by simp [ih.2.2.2]⟩
theorem tPairs_c (σ : St) (H : Hp) (Q : List (V × V) → Hp → Prop) : ∀ (l : List (List Nat × Int)), tPairs (l.map fun p => (tC (V.str ⟨p.1.toArray⟩), tC (V.int p.2))) σ H Q ↔ Q (l.map fun p => (V.str ⟨p.1.toArray⟩, V.int p.2)) H
  | [] => Iff.rfl
  | (s, i) :: l => tPairs_c σ H (fun ps H3 => Q ((V.str ⟨s.toArray⟩, V.int i) :: ps) H3) l
def kvC (l : List (List Nat × Int)) : List (Key × V) := l.map fun p => (Sum.inr ⟨p.1.toArray⟩, V.int p.2)
theorem valV_kvC (s : List Nat) : ∀ l : List (List Nat × Int), valV (kvC l) (Sum.inr ⟨s.toArray⟩ : Key) = (l.find? fun p => decide (p.1 = s)).map fun p => V.int p.2
  | [] => rfl
  | (t, i) :: l => by
    unfold kvC valV
    rw [List.map_cons, List.find?_cons, List.find?_cons]
    by_cases h : t = s
    · subst h
      simp
    · have : decide ((Sum.inr ⟨t.toArray⟩ : Key) = Sum.inr ⟨s.toArray⟩) = false := decide_eq_false fun z => h (by injection z with z; injection z with z; simpa using z)
      rw [this, decide_eq_false h]
      exact valV_kvC s l
theorem merge_kvC : ∀ (l acc : List (List Nat × Int)), ((acc ++ l).map (·.1)).Nodup → mergeK (kvC acc) (kvC l) = kvC (acc ++ l)
  | [], acc, _ => by rw [List.append_nil]; rfl
  | (s, i) :: l, acc, h => by
    have e : mergeK (kvC acc) (kvC ((s, i) :: l)) = mergeK (putK (kvC acc) (Sum.inr ⟨s.toArray⟩) (V.int i)) (kvC l) := rfl
    have hn : valV (kvC acc) (Sum.inr ⟨s.toArray⟩ : Key) = none := by
      rw [valV_kvC]
      have : acc.find? (fun p => decide (p.1 = s)) = none := by
        rw [List.find?_eq_none]
        intro p hp z
        have z : p.1 = s := by simpa using z
        rw [List.map_append, List.nodup_append] at h
        exact h.2.2 p.1 (List.mem_map.mpr ⟨p, hp, rfl⟩) s (by simp) z
      rw [this]
      rfl
    rw [e, putK_new _ hn]
    have e2 : kvC acc ++ [(Sum.inr ⟨s.toArray⟩, V.int i)] = kvC (acc ++ [(s, i)]) := by
      unfold kvC
      rw [List.map_append]
      rfl
    rw [e2, merge_kvC l (acc ++ [(s, i)]) (by rw [List.append_assoc]; exact h), List.append_assoc]
    rfl
/-- such a dict made -/
theorem kvs_made {ks : List (Option Expr)} {vs : List Expr} {ss : List (List Nat)} {is : List Int} (h : KVs X pos ks vs ss is) (h0 : ks ≠ []) (h15 : ks.length ≤ 15) (hnd : ss.Nodup) :
    PE X (.Dict ks vs pos) (fun _ H Q => ∀ p, H p = none → Q (.ref p) (upd H p (.dK (kvC (ss.zip is))))) := by
  obtain ⟨l1, l2, l3, l4⟩ := h.len
  refine PE.mono (pe_disp h.pps l1 l2 h0 h15) fun σ H Q q => ?_
  intro p hp
  rw [tPairs_c]
  have hz : (ss.zip is).length = ss.length := by rw [List.length_zip]; omega
  refine ⟨upd_same, kvC (ss.zip is), ?_, ?_, ?_⟩
  · unfold kvC
    rw [List.map_map]
    rfl
  · unfold kvC
    rw [List.length_map, hz]
    omega
  · have e : mergeK [] (kvC (ss.zip is)) = kvC (ss.zip is) := merge_kvC (ss.zip is) [] (by rw [List.nil_append, List.map_fst_zip (by omega)]; exact hnd)
    rw [e, upd_upd]
    exact q p hp
theorem s_dsel {ks : List (Option Expr)} {vs : List Expr} {ss : List (List Nat)} {is : List Int} {dpos : Pos} (hu : X.A.units + 65 < cLine) (h : KVs X dpos ks vs ss is) (h0 : ks ≠ []) (h15 : ks.length ≤ 15) (hnd : ss.Nodup) (he : Snd X W e m) (hn : NoSl e) :
    Snd X W (.Subscript (.Dict ks vs dpos) e pos) (.dsel ss is m) := by
  refine Snd.of (PE.mono (pe_dget (by omega) (kvs_made h h0 h15 hnd) he.pe hn) fun σ H Q ⟨F, ρ, Hf, r, p⟩ => ?_) (fun i z => nomatch z) (fun _ => rfl)
  have p : Post (ctx X) F W σ (dE (ctx X) σ) Q Hf ((ev m ρ).bind fun x => match x.1 with
    | .str s => match (ss.zip is).find? fun p => decide (p.1 = s) with
      | some p => .ok (.int p.2, x.2)
      | none => .stuck
    | _ => .stuck) := p
  intro pa hpa
  obtain ⟨r1, s1⟩ := r.alloc hpa (.dK (kvC (ss.zip is)))
  have p1 := Post.mono s1 p
  refine step r1 p1 fun d ρ2 v H2 Hf2 r2 s2 dn2 p2 => ?_
  dsimp only at p2
  split at p2
  · rename_i s
    obtain ⟨rfl, g⟩ := dn2
    split at p2
    · rename_i q e1
      refine ⟨pa, .int q.2, rfl, .inl ⟨_, Sum.inr ⟨s.toArray⟩, .inl (r2.sub _ _ (s2 _ _ upd_same)), rfl, ?_⟩, p2 _ _ _ r2 (Same.refl _) rfl⟩
      rw [valV_kvC, e1]
      rfl
    · exact p2.elim
  · exact p2.elim
theorem s_dgetc {ks : List (Option Expr)} {vs : List Expr} {ss : List (List Nat)} {is : List Int} {x : Expr} {i0 : Int} {dpos apos cpos : Pos} (hu : X.A.units + 65 < cLine) (h : KVs X dpos ks vs ss is) (h0 : ks ≠ []) (h15 : ks.length ≤ 15) (hnd : ss.Nodup) (he : Snd X W e m) (hx : PE X x (tC (.int i0)))
    (M : M2 X (.Dict ks vs dpos) "get" apos e x cpos) : Snd X W (.Call (.Attribute (.Dict ks vs dpos) "get" apos) [e, x] [] cpos) (.dgetc ss is m i0) := by
  refine Snd.of (PE.mono (pe_dget2 (by omega) (kvs_made h h0 h15 hnd) he.pe hx M) fun σ H Q ⟨F, ρ, Hf, r, p⟩ => ?_) (fun i z => nomatch z) (fun _ => rfl)
  have p : Post (ctx X) F W σ (dE (ctx X) σ) Q Hf ((ev m ρ).bind fun x => match x.1 with
    | .str s => match (ss.zip is).find? fun p => decide (p.1 = s) with
      | some p => .ok (.int p.2, x.2)
      | none => .ok (.int i0, x.2)
    | _ => .stuck) := p
  intro pa hpa
  obtain ⟨r1, s1⟩ := r.alloc hpa (.dK (kvC (ss.zip is)))
  have p1 := Post.mono s1 p
  refine ⟨pa, rfl, .inl ⟨_, .inl upd_same⟩, ?_⟩
  refine step r1 p1 fun d ρ2 v H2 Hf2 r2 s2 dn2 p2 => ?_
  dsimp only at p2
  split at p2
  · rename_i s
    obtain ⟨rfl, g⟩ := dn2
    refine ⟨_, .inl ⟨_, Sum.inr ⟨s.toArray⟩, .inl (r2.sub _ _ (s2 _ _ upd_same)), rfl, rfl⟩, ?_⟩
    rw [valV_kvC]
    split at p2
    · rename_i q e1
      rw [e1]
      exact p2 _ _ _ r2 (Same.refl _) rfl
    · rename_i e1
      rw [e1]
      exact p2 _ _ _ r2 (Same.refl _) rfl
  · exact p2.elim
end
end NV

/-! NV.J: what a loop walks. -/
namespace NV
open PySem PySem.Spec PyProof.Rows L2

/-! ### locks -/
theorem lockE_len : ∀ (ms : List ME) (ρ : Rho), (lockE ms ρ).length = ρ.length
  | [], ρ => rfl
  | m :: ms, ρ => by
    cases m with
    | var i =>
      unfold lockE
      split
      · rw [lockE_len ms, List.length_set]
      · rw [lockE_len ms, List.length_set]
      · exact lockE_len ms ρ
    | _ => exact lockE_len ms ρ
/-- each entry is as it was, or an own one that is locked -/
theorem lockE_at : ∀ (ms : List ME) (ρ : Rho) (j : Nat), (lockE ms ρ)[j]? = ρ[j]? ∨ ∃ d, (ρ[j]? = some (.ow d) ∨ ρ[j]? = some (.io d)) ∧ (lockE ms ρ)[j]? = some (.br d)
  | [], ρ, j => .inl rfl
  | m :: ms, ρ, j => by
    have sub : ∀ (i : Nat) (d : D), (ρ[i]? = some (.ow d) ∨ ρ[i]? = some (.io d)) → (lockE ms (ρ.set i (.br d)))[j]? = ρ[j]? ∨ ∃ d2, (ρ[j]? = some (.ow d2) ∨ ρ[j]? = some (.io d2)) ∧ (lockE ms (ρ.set i (.br d)))[j]? = some (.br d2) := fun i d hi => by
      have hl : i < ρ.length := by rcases hi with h | h <;> exact lt_of_get h
      by_cases hij : i = j
      · subst hij
        rcases lockE_at ms (ρ.set i (.br d)) i with h | ⟨d', h1, h2⟩
        · rw [List.getElem?_set_self hl] at h
          exact .inr ⟨d, hi, h⟩
        · rw [List.getElem?_set_self hl] at h1
          rcases h1 with h1 | h1 <;> cases h1
      · rcases lockE_at ms (ρ.set i (.br d)) j with h | ⟨d', h1, h2⟩
        · rw [List.getElem?_set_ne hij] at h
          exact .inl h
        · rw [List.getElem?_set_ne hij] at h1
          exact .inr ⟨d', h1, h2⟩
    cases m with
    | var i =>
      unfold lockE
      split
      · rename_i d h
        exact sub i d (.inl h)
      · rename_i d h
        exact sub i d (.inr h)
      · exact lockE_at ms ρ j
    | _ => exact lockE_at ms ρ j
/-- a name that is walked over is locked, or is no own one -/
theorem lockE_mem : ∀ (ms : List ME) (ρ : Rho) (i : Nat), ME.var i ∈ ms → (∀ d, (lockE ms ρ)[i]? ≠ some (.ow d)) ∧ (∀ d, (lockE ms ρ)[i]? ≠ some (.io d))
  | [], ρ, i, h => by cases h
  | m :: ms, ρ, i, h => by
    have sub : ∀ (ms : List ME) (ρ : Rho), (∀ d, ρ[i]? ≠ some (.ow d)) ∧ (∀ d, ρ[i]? ≠ some (.io d)) → (∀ d, (lockE ms ρ)[i]? ≠ some (.ow d)) ∧ (∀ d, (lockE ms ρ)[i]? ≠ some (.io d)) := fun ms ρ hn => by
      rcases lockE_at ms ρ i with h | ⟨d', h1, h2⟩
      · rw [h]; exact hn
      · rw [h2]
        exact ⟨fun d z => (by cases z), fun d z => (by cases z)⟩
    rcases List.mem_cons.mp h with rfl | hz
    · unfold lockE
      split
      · rename_i d h
        refine sub ms _ ?_
        rw [List.getElem?_set_self (lt_of_get h)]
        exact ⟨fun d z => (by cases z), fun d z => (by cases z)⟩
      · rename_i d h
        refine sub ms _ ?_
        rw [List.getElem?_set_self (lt_of_get h)]
        exact ⟨fun d z => (by cases z), fun d z => (by cases z)⟩
      · rename_i h1 h2
        exact sub ms ρ ⟨fun d z => h1 d z, fun d z => h2 d z⟩
    · cases m with
      | var k =>
        unfold lockE
        split
        · exact lockE_mem ms _ i hz
        · exact lockE_mem ms _ i hz
        · exact lockE_mem ms ρ i hz
      | _ => exact lockE_mem ms ρ i hz
/-- the frame within the loop -/
def Fr.lock (F : Fr) (ms : List ME) (ρ : Rho) (σ : St) : Fr := { F with L := fun j a o => (F.L j a o ∧ (lockE ms ρ)[j]? = ρ[j]?) ∨ ∃ d, o = some d ∧ (lockE ms ρ)[j]? = some (.br d) ∧ σ[j]? = some (some (.ref a)) }
section
variable {c : Ct} {F : Fr} {ρ : Rho} {σ : St} {H Hf : Hp}
theorem R.lock (r : R c F ρ σ H Hf) (ms : List ME) : R c (F.lock ms ρ σ) (lockE ms ρ) σ H Hf := by
  refine r.relabel (lockE_len ms ρ) rfl rfl rfl (fun i d h => ?_) (fun a o h m => r.keep a o h m) (fun i d h => ?_) (fun i e d h1 h2 => ?_) (fun i d a h1 h2 => ?_) (fun i d a h1 h2 => ?_) (fun i a o h => ?_)
  · rcases lockE_at ms ρ i with h' | ⟨d', h1, h2⟩
    · have h0 := h
      rw [h'] at h0
      obtain ⟨a, w, _⟩ := r.own i _ d h0 rfl
      exact ⟨a, .inr ⟨d, rfl, h, w⟩⟩
    · rw [h] at h2
      cases h2
      rcases h1 with h1 | h1
      · obtain ⟨a, w, _⟩ := r.own i _ d h1 rfl
        exact ⟨a, .inr ⟨d, rfl, h, w⟩⟩
      · obtain ⟨a, w, _⟩ := r.own i _ d h1 rfl
        exact ⟨a, .inr ⟨d, rfl, h, w⟩⟩
  · rcases lockE_at ms ρ i with h' | ⟨d', h1, h2⟩
    · rw [← h']; exact h
    · rw [h] at h2; cases h2
  · rcases lockE_at ms ρ i with h' | ⟨d', h3, h4⟩
    · exact ⟨e, by rw [← h']; exact h1, h2⟩
    · rw [h1] at h4
      cases h4
      cases h2
      rcases h3 with h3 | h3
      · exact ⟨_, h3, rfl⟩
      · exact ⟨_, h3, rfl⟩
  · rcases lockE_at ms ρ i with h' | ⟨d', h3, h4⟩
    · exact r.ow i d a (by rw [← h']; exact h1) h2
    · rw [h1] at h4; cases h4
  · rcases lockE_at ms ρ i with h' | ⟨d', h3, h4⟩
    · exact r.io i d a (by rw [← h']; exact h1) h2
    · rw [h1] at h4; cases h4
  · rcases h with ⟨h, h'⟩ | ⟨d, rfl, h, h'⟩
    · obtain ⟨w1, e, w2, w3⟩ := r.pin i a o h
      exact ⟨w1, e, by rw [h']; exact w2, w3⟩
    · exact ⟨h', _, h, rfl⟩
theorem unlockE_len (ρ0 : Rho) : ∀ (ms : List ME) (ρ : Rho), (unlockE ρ0 ms ρ).length = ρ.length
  | [], ρ => rfl
  | m :: ms, ρ => by
    cases m with
    | var i =>
      unfold unlockE
      split
      · rw [unlockE_len ρ0 ms, List.length_set]
      · rw [unlockE_len ρ0 ms, List.length_set]
      · exact unlockE_len ρ0 ms ρ
    | _ => exact unlockE_len ρ0 ms ρ
/-- behind the loop an entry that was locked is what it was -/
theorem unlockE_at (ρ0 : Rho) : ∀ (ms : List ME) (ρ : Rho) (j : Nat), j < ρ.length →
    (unlockE ρ0 ms ρ)[j]? = ρ[j]? ∧ (∀ d, ρ0[j]? = some (.ow d) ∨ ρ0[j]? = some (.io d) → ME.var j ∈ ms → ρ[j]? = ρ0[j]?) ∨
    (ME.var j ∈ ms ∧ (∃ d, ρ0[j]? = some (.ow d) ∨ ρ0[j]? = some (.io d)) ∧ (unlockE ρ0 ms ρ)[j]? = ρ0[j]?)
  | [], ρ, j, _ => .inl ⟨rfl, fun _ _ h => by cases h⟩
  | m :: ms, ρ, j, hj => by
    have sub : ∀ (i : Nat) (e : Ent), ρ0[i]? = some e → ((∃ d, e = .ow d) ∨ ∃ d, e = .io d) → m = .var i → unlockE ρ0 (m :: ms) ρ = unlockE ρ0 ms (ρ.set i e) →
        (unlockE ρ0 (m :: ms) ρ)[j]? = ρ[j]? ∧ (∀ d, ρ0[j]? = some (.ow d) ∨ ρ0[j]? = some (.io d) → ME.var j ∈ m :: ms → ρ[j]? = ρ0[j]?) ∨
        (ME.var j ∈ m :: ms ∧ (∃ d, ρ0[j]? = some (.ow d) ∨ ρ0[j]? = some (.io d)) ∧ (unlockE ρ0 (m :: ms) ρ)[j]? = ρ0[j]?) := fun i e h0 hk hm hu => by
      rw [hu]
      by_cases hij : i = j
      · subst hij
        refine .inr ⟨by rw [hm]; exact List.mem_cons_self, ?_, ?_⟩
        · rcases hk with ⟨d, rfl⟩ | ⟨d, rfl⟩
          · exact ⟨d, .inl h0⟩
          · exact ⟨d, .inr h0⟩
        · rcases unlockE_at ρ0 ms (ρ.set i e) i (by simpa using hj) with ⟨h, _⟩ | ⟨_, _, h⟩
          · rw [h, List.getElem?_set_self hj, h0]
          · exact h
      · rcases unlockE_at ρ0 ms (ρ.set i e) j (by simpa using hj) with ⟨h, h2⟩ | ⟨h1, h2, h3⟩
        · rw [List.getElem?_set_ne hij] at h h2
          refine .inl ⟨h, fun d hd hmem => ?_⟩
          rcases List.mem_cons.mp hmem with z | z
          · rw [hm] at z
            cases z
            exact absurd rfl hij
          · exact h2 d hd z
        · exact .inr ⟨List.mem_cons_of_mem _ h1, h2, h3⟩
    have sub2 : (∀ d, ME.var j = m → ρ0[j]? ≠ some (.ow d) ∧ ρ0[j]? ≠ some (.io d)) → unlockE ρ0 (m :: ms) ρ = unlockE ρ0 ms ρ →
        (unlockE ρ0 (m :: ms) ρ)[j]? = ρ[j]? ∧ (∀ d, ρ0[j]? = some (.ow d) ∨ ρ0[j]? = some (.io d) → ME.var j ∈ m :: ms → ρ[j]? = ρ0[j]?) ∨
        (ME.var j ∈ m :: ms ∧ (∃ d, ρ0[j]? = some (.ow d) ∨ ρ0[j]? = some (.io d)) ∧ (unlockE ρ0 (m :: ms) ρ)[j]? = ρ0[j]?) := fun hn hu => by
      rw [hu]
      rcases unlockE_at ρ0 ms ρ j hj with ⟨h, h2⟩ | ⟨h1, h2, h3⟩
      · refine .inl ⟨h, fun d hd hmem => ?_⟩
        rcases List.mem_cons.mp hmem with z | z
        · rcases hd with hd | hd
          · exact absurd hd (hn d z).1
          · exact absurd hd (hn d z).2
        · exact h2 d hd z
      · exact .inr ⟨List.mem_cons_of_mem _ h1, h2, h3⟩
    cases m with
    | var i =>
      cases q : ρ0[i]? with
      | none => exact sub2 (fun d z => by cases z; rw [q]; exact ⟨fun z => (nomatch z), fun z => (nomatch z)⟩) (by rw [unlockE]; simp only [q])
      | some e =>
        cases e with
        | ow d => exact sub i _ q (.inl ⟨d, rfl⟩) rfl (by rw [unlockE]; simp only [q])
        | io d => exact sub i _ q (.inr ⟨d, rfl⟩) rfl (by rw [unlockE]; simp only [q])
        | un => exact sub2 (fun d z => by cases z; rw [q]; exact ⟨fun z => (nomatch z), fun z => (nomatch z)⟩) (by rw [unlockE]; simp only [q])
        | im d => exact sub2 (fun d z => by cases z; rw [q]; exact ⟨fun z => (nomatch z), fun z => (nomatch z)⟩) (by rw [unlockE]; simp only [q])
        | br d => exact sub2 (fun d z => by cases z; rw [q]; exact ⟨fun z => (nomatch z), fun z => (nomatch z)⟩) (by rw [unlockE]; simp only [q])
    | _ => exact sub2 (fun d z => by cases z) rfl
/-- locked entries are those that the list names -/
theorem lockE_br : ∀ (ms : List ME) (ρ : Rho) (j : Nat), (lockE ms ρ)[j]? ≠ ρ[j]? → ME.var j ∈ ms
  | [], ρ, j, h => absurd rfl h
  | m :: ms, ρ, j, h => by
    have sub : ∀ (i : Nat) (e : Ent), m = .var i → (lockE ms (ρ.set i e))[j]? ≠ ρ[j]? → ME.var j ∈ m :: ms := fun i e hm h => by
      by_cases hij : i = j
      · subst hij
        rw [hm]
        exact List.mem_cons_self
      · refine List.mem_cons_of_mem _ (lockE_br ms (ρ.set i e) j ?_)
        rw [List.getElem?_set_ne hij]
        exact h
    cases m with
    | var i =>
      unfold lockE at h
      split at h
      · exact sub i _ rfl h
      · exact sub i _ rfl h
      · exact List.mem_cons_of_mem _ (lockE_br ms ρ j h)
    | _ => exact List.mem_cons_of_mem _ (lockE_br ms ρ j h)
/-- behind the loop -/
theorem R.unlock {ms : List ME} {ρe : Rho} {σe : St} {He Hfe : Hp} (r0 : R c F ρ σ H Hf) (r : R c (F.lock ms ρ σ) ρe σe He Hfe) : R c F (unlockE ρ ms ρe) σe He Hfe := by
  -- what a locked entry is within
  have locked : ∀ j d, ME.var j ∈ ms → (ρ[j]? = some (.ow d) ∨ ρ[j]? = some (.io d)) → ∃ a, σ[j]? = some (some (.ref a)) ∧ σe[j]? = some (some (.ref a)) ∧ ρe[j]? = some (.br d) := fun j d hm hd => by
    have h1 : (lockE ms ρ)[j]? = some (.br d) := by
      rcases lockE_at ms ρ j with h | ⟨d', h1, h2⟩
      · have := lockE_mem ms ρ j hm
        rw [h] at this
        rcases hd with hd | hd
        · exact absurd hd (this.1 d)
        · exact absurd hd (this.2 d)
      · rw [h2]
        rcases hd with hd | hd <;> rcases h1 with h1 | h1 <;> (rw [hd] at h1; cases h1) <;> rfl
    obtain ⟨a, w, _⟩ : ∃ a, σ[j]? = some (some (V.ref a)) ∧ Own c Hf H d a := by
      rcases hd with hd | hd
      · exact r0.own j _ d hd rfl
      · exact r0.own j _ d hd rfl
    obtain ⟨w1, e, w2, w3⟩ := r.pin j a (some d) (.inr ⟨d, rfl, h1, w⟩)
    have w3 : e = .br d := w3
    subst w3
    exact ⟨a, w, w1, w2⟩
  have at_ : ∀ j e, (unlockE ρ ms ρe)[j]? = some e → ρe[j]? = some e ∨ ∃ d a, ME.var j ∈ ms ∧ (e = .ow d ∧ ρ[j]? = some (.ow d) ∨ e = .io d ∧ ρ[j]? = some (.io d)) ∧ σ[j]? = some (some (.ref a)) ∧ σe[j]? = some (some (.ref a)) ∧ ρe[j]? = some (.br d) := fun j e h => by
    have hj : j < ρe.length := by
      have := lt_of_get h
      rw [unlockE_len] at this
      exact this
    rcases unlockE_at ρ ms ρe j hj with ⟨h1, _⟩ | ⟨h1, ⟨d, h2⟩, h3⟩
    · exact .inl (by rw [← h1]; exact h)
    · obtain ⟨a, w1, w2, w3⟩ := locked j d h1 h2
      rw [h] at h3
      refine .inr ⟨d, a, h1, ?_, w1, w2, w3⟩
      rcases h2 with h2 | h2
      · rw [h2] at h3; cases h3; exact .inl ⟨rfl, h2⟩
      · rw [h2] at h3; cases h3; exact .inr ⟨rfl, h2⟩
  refine r.relabel (unlockE_len ρ ms ρe) rfl rfl rfl (fun i d h => ?_) (fun a o h m => r.keep a o h m) (fun i d h => ?_) (fun i e d h1 h2 => ?_) (fun i d a h1 h2 => ?_) (fun i d a h1 h2 => ?_) (fun i a o h => ?_)
  · -- read-only entries
    have hj : i < ρe.length := by
      have := lt_of_get h
      rw [unlockE_len] at this
      exact this
    rcases at_ i _ h with h' | ⟨d', a, h1, h2, _⟩
    · obtain ⟨a, w⟩ := r.brL i d h'
      rcases w with ⟨w, _⟩ | ⟨d', z, w1, w2⟩
      · exact ⟨a, w⟩
      · cases z
        rcases lockE_at ms ρ i with z | ⟨d2, z1, z2⟩
        · rw [z] at w1
          exact r0.brL i d w1
        · exfalso
          have hm : ME.var i ∈ ms := lockE_br ms ρ i fun z => by
            rw [z2] at z
            rcases z1 with z1 | z1 <;> (rw [z1] at z; cases z)
          rw [z2] at w1
          cases w1
          rcases unlockE_at ρ ms ρe i hj with ⟨u1, u2⟩ | ⟨u1, ⟨d3, u2⟩, u3⟩
          · have u4 := u2 d z1 hm
            rw [h'] at u4
            rcases z1 with z1 | z1 <;> (rw [z1] at u4; cases u4)
          · rw [h] at u3
            rcases z1 with z1 | z1 <;> (rw [z1] at u3; cases u3)
    · rcases h2 with ⟨h2, _⟩ | ⟨h2, _⟩ <;> cases h2
  · rcases at_ i _ h with h' | ⟨d', a, h1, h2, _⟩
    · exact h'
    · rcases h2 with ⟨h2, _⟩ | ⟨h2, _⟩ <;> cases h2
  · rcases at_ i _ h1 with h' | ⟨d', a, h3, h4, h5, h6, h7⟩
    · exact ⟨e, h', h2⟩
    · refine ⟨.br d', h7, ?_⟩
      rcases h4 with ⟨rfl, _⟩ | ⟨rfl, _⟩ <;> exact h2
  · rcases at_ i _ h1 with h' | ⟨d', b, h3, h4, h5, h6, h7⟩
    · exact r.ow i d a h' h2
    · rcases h4 with ⟨z, h4⟩ | ⟨z, h4⟩
      · rw [h6] at h2
        cases h2
        exact r0.ow i d' _ h4 h5
      · cases z
  · rcases at_ i _ h1 with h' | ⟨d', b, h3, h4, h5, h6, h7⟩
    · exact r.io i d a h' h2
    · rcases h4 with ⟨z, h4⟩ | ⟨z, h4⟩
      · cases z
      · rw [h6] at h2
        cases h2
        exact r0.io i d' _ h4 h5
  · -- pins
    obtain ⟨w1, e, w2, w3⟩ := r0.pin i a o h
    rcases lockE_at ms ρ i with z | ⟨d2, z1, z2⟩
    · obtain ⟨y1, e', y2, y3⟩ := r.pin i a o (.inl ⟨h, z⟩)
      refine ⟨y1, e', ?_, y3⟩
      have hj := lt_of_get y2
      rcases unlockE_at ρ ms ρe i hj with ⟨u1, u2⟩ | ⟨u1, ⟨d3, u2⟩, u3⟩
      · rw [u1]; exact y2
      · have := lockE_mem ms ρ i u1
        rw [z] at this
        rcases u2 with u2 | u2
        · exact absurd u2 (this.1 d3)
        · exact absurd u2 (this.2 d3)
    · have hm : ME.var i ∈ ms := lockE_br ms ρ i fun z => by
        rw [z2] at z
        rcases z1 with z1 | z1 <;> (rw [z1] at z; cases z)
      obtain ⟨b, y1, y2, y3⟩ := locked i d2 hm z1
      rw [w1] at y1
      cases y1
      refine ⟨y2, e, ?_, w3⟩
      have hj := lt_of_get y3
      rcases unlockE_at ρ ms ρe i hj with ⟨u1, u2⟩ | ⟨u1, ⟨d3, u2⟩, u3⟩
      · rw [u1, u2 d2 z1 hm]; exact w2
      · rw [u3]; exact w2
end
end NV

/-! NV.K: iterables, targets, comprehensions. -/
namespace NV
open PySem PySem.Spec PyProof.Rows L2

/-- J gives out the data of items, one by one -/
def IterOk (c : Ct) (J : It) (items : List D) (ms : List ME) (ρ1 : Rho) (σ : St) (Hf1 : Hp) : Prop :=
  ∀ F' ρ' σ' H' Hf', R c F' ρ' σ' H' Hf' → Same Hf1 Hf' → (∀ j a d, (lockE ms ρ1)[j]? = some (.br d) → σ[j]? = some (some (.ref a)) → F'.L j a (some d)) → ∀ i,
    (∀ d, items[i]? = some d → J.go i H' ∧ ∀ x H2, J.yld i H' x H2 → ∃ Hf2, R c F' ρ' σ' H2 Hf2 ∧ Same Hf' Hf2 ∧ Den c Hf2 d x) ∧ (items.length ≤ i → J.stop i H')
def PostX (c : Ct) (F : Fr) (W : WX) (σ : St) (k : IK) (ms : List ME) (RR : It → Hp → Prop) (Hf : Hp) : Out Rho (List (Option D) × Rho) → Prop
  | .stuck => False
  | .ok (os, ρ1) => ∃ items, (finL ms os ρ1).bind (iterD k) = some items ∧ ∀ H1 Hf1 J, R c F ρ1 σ H1 Hf1 → Same Hf Hf1 → IterOk c J items ms ρ1 σ Hf1 → RR J H1
  | .exc n ρ' => ∀ H' Hf' C, R c F ρ' σ H' Hf' → Same Hf Hf' → c.mg (Str.ofString n) = some (.ref C) → W (.ref C) none σ H'
def iX (c : Ct) (W : WX) (k : IK) (ms : List ME) : TI := fun σ H RR => ∃ F ρ Hf, R c F ρ σ H Hf ∧ PostX c F W σ k ms RR Hf (pres ms ρ)
/-- an argument that is walked, later -/
theorem src_top {c : Ct} {F : Fr} {ρ1 : Rho} {σ : St} {H1 Hf1 Hf0 : Hp} {m : ME} {o : Option D} {v : V} {d : D} {ms : List ME} (r : R c F ρ1 σ H1 Hf1) (s : Same Hf0 Hf1) (h : dP c m σ o v Hf0) (e : fin m o ρ1 = some d) (hm : m ∈ ms)
    {F' : Fr} {ρ' : Rho} {σ' : St} {H' Hf' : Hp} (r' : R c F' ρ' σ' H' Hf') (s' : Same Hf1 Hf') (hl : ∀ j a d, (lockE ms ρ1)[j]? = some (.br d) → σ[j]? = some (some (.ref a)) → F'.L j a (some d)) : Top c Hf' H' d v := by
  have viaBr : ∀ i d', m = .var i → (lockE ms ρ1)[i]? = some (.br d') → σ[i]? = some (some v) → (∃ a, v = .ref a) → d' = d → Top c Hf' H' d v := fun i d' _ h1 h2 ⟨a, h3⟩ h4 => by
    subst h3 h4
    have q := hl i a d' h1 h2
    obtain ⟨w1, e', w2, w3⟩ := r'.pin i a _ q
    have w3 : e' = .br d' := w3
    subst w3
    obtain ⟨b, w4, w5⟩ := r'.own i _ d' w2 rfl
    rw [w1] at w4
    cases w4
    exact Top.of_own w5
  cases m with
  | var i =>
    have h : σ[i]? = some (some v) := h
    have e : peek ρ1 i = some d := e
    unfold peek at e
    cases q : ρ1[i]? with
    | none => rw [q] at e; cases e
    | some en =>
      rw [q] at e
      have isref : ∀ d', en.own? = some d' → ∃ a, v = .ref a := fun d' z => by
        obtain ⟨a, w, _⟩ := r.own i en d' q z
        rw [h] at w
        cases w
        exact ⟨a, rfl⟩
      have lk : ∀ d', (ρ1[i]? = some (.ow d') ∨ ρ1[i]? = some (.io d')) → (lockE ms ρ1)[i]? = some (.br d') := fun d' z => by
        rcases lockE_at ms ρ1 i with w | ⟨d2, w1, w2⟩
        · have := lockE_mem ms ρ1 i hm
          rw [w] at this
          rcases z with z | z
          · exact absurd z (this.1 d')
          · exact absurd z (this.2 d')
        · rw [w2]
          rcases z with z | z <;> rcases w1 with w1 | w1 <;> (rw [z] at w1; cases w1) <;> rfl
      cases en with
      | un => cases e
      | im d' =>
        cases e
        obtain ⟨v', w1, w2⟩ := r.im i _ q
        rw [h] at w1
        cases w1
        exact Top.of_den r'.sub (Den.mono s' _ _ w2)
      | ow d' => cases e; exact viaBr i _ rfl (lk _ (.inl q)) h (isref _ rfl) rfl
      | io d' => cases e; exact viaBr i _ rfl (lk _ (.inr q)) h (isref _ rfl) rfl
      | br d' =>
        cases e
        refine viaBr i _ rfl ?_ h (isref _ rfl) rfl
        rcases lockE_at ms ρ1 i with w | ⟨d2, w1, w2⟩
        · rw [w]; exact q
        · rcases w1 with w1 | w1 <;> (rw [q] at w1; cases w1)
  | _ =>
    obtain ⟨d', rfl, dn⟩ := h
    cases e
    exact Top.of_den r'.sub (Den.mono (s.trans s') _ _ dn)
section
variable {X : Cx} {W : WX}
theorem PI.mono {tg e : Expr} {t t' : TI} (h : PI X tg e t) (k : ∀ σ H Q, t' σ H Q → t σ H Q) : PI X tg e t' := ⟨fun pins s σ H Q I q => h.run pins s σ H Q I (k σ H Q q)⟩
theorem PI.or {tg e : Expr} {t t' : TI} (h : PI X tg e t) (h' : PI X tg e t') : PI X tg e (fun σ H Q => t σ H Q ∨ t' σ H Q) := ⟨fun pins s σ H Q I q => q.elim (h.run pins s σ H Q I) (h'.run pins s σ H Q I)⟩
theorem pres_one (m : ME) (ρ : Rho) : pres [m] ρ = (pre m (ev m) ρ).bind fun x => .ok ([x.1], x.2) := rfl
theorem finL_one (m : ME) (o : Option D) (ρ : Rho) : finL [m] [o] ρ = (fin m o ρ).map fun d => [d] := by
  unfold finL
  cases fin m o ρ <;> rfl
/-- a list, a tuple, a text -/
theorem i_seq {tg e : Expr} {m : ME} (h : Snd X W e m) : PI X tg e (iX (ctx X) W .seq [m]) := by
  refine PI.mono (PI.or (pi_list h.pp) (PI.or (pi_tup h.pp) (pi_str h.pp))) fun σ H RR ⟨F, ρ, Hf, r, p⟩ => ?_
  rw [pres_one] at p
  -- the operand, whatever is wanted of it
  have go : ∀ (K : V → Hp → Prop), (∀ o ρ1, pre m (ev m) ρ = .ok (o, ρ1) → ∀ v H1 Hf1, R (ctx X) F ρ1 σ H1 Hf1 → Same Hf Hf1 → dP (ctx X) m σ o v Hf1 → K v H1) → tP (ctx X) W m σ H K := fun K k => by
    refine ⟨F, ρ, Hf, r, ?_⟩
    cases q : pre m (ev m) ρ with
    | stuck => rw [q] at p; exact p
    | exc n ρ' => rw [q] at p; exact p
    | ok x =>
      obtain ⟨o, ρ1⟩ := x
      exact fun v H1 Hf1 r1 s1 d1 => k o ρ1 q v H1 Hf1 r1 s1 d1
  have fin1 : ∀ o ρ1, pre m (ev m) ρ = .ok (o, ρ1) → ∃ d items, fin m o ρ1 = some d ∧ itemsD d = some items ∧ ∀ H1 Hf1 J, R (ctx X) F ρ1 σ H1 Hf1 → Same Hf Hf1 → IterOk (ctx X) J items [m] ρ1 σ Hf1 → RR J H1 := fun o ρ1 q => by
    rw [q] at p
    obtain ⟨items, e1, k⟩ := p
    have e1 : (finL [m] [o] ρ1).bind (iterD .seq) = some items := e1
    rw [finL_one] at e1
    cases z : fin m o ρ1 with
    | none => rw [z] at e1; cases e1
    | some d => rw [z] at e1; exact ⟨d, items, rfl, e1, k⟩
  -- which kind it is
  cases q : pre m (ev m) ρ with
  | stuck => rw [q] at p; exact p.elim
  | exc n ρ' =>
    exact .inl (go _ fun o ρ1 q' => by rw [q] at q'; cases q')
  | ok x =>
    obtain ⟨o, ρ1⟩ := x
    obtain ⟨d, items, e1, e2, k⟩ := fin1 o ρ1 q
    cases d with
    | lst l =>
      have e2 : items = l := (Option.some.inj e2).symm
      subst e2
      refine .inl (go _ fun o' ρ1' q' v H1 Hf1 r1 s1 d1 => ?_)
      rw [q] at q'
      cases q'
      obtain ⟨a, vs, rfl, h1, h2⟩ := (show Top _ _ _ (.lst items) _ from top_fin r1 (Same.refl _) d1 e1)
      refine ⟨a, rfl, ⟨vs, SqL.of h1⟩, k H1 Hf1 _ r1 s1 fun F' ρ' σ' H' Hf' r' s' hl i => ?_⟩
      obtain ⟨a', vs', e, h1', h2'⟩ := (show Top _ _ _ (.lst items) _ from src_top r1 (Same.refl _) d1 e1 List.mem_cons_self r' s' hl)
      cases e
      refine ⟨fun dd hd => ?_, fun hle => ⟨vs', SqL.of h1', by rw [← Dens.length h2']; exact hle⟩⟩
      obtain ⟨w, w1, w2⟩ := Dens.get h2' hd
      refine ⟨⟨vs', w, SqL.of h1', w1⟩, fun x H2 ⟨e, y⟩ => ?_⟩
      subst e
      have := y vs' (SqL.of h1')
      rw [w1] at this
      cases this
      exact ⟨Hf', r', Same.refl _, w2⟩
    | tup l =>
      have e2 : items = l := (Option.some.inj e2).symm
      subst e2
      refine .inr (.inl (go _ fun o' ρ1' q' v H1 Hf1 r1 s1 d1 => ?_))
      rw [q] at q'
      cases q'
      obtain ⟨a, vs, rfl, h1, h2⟩ := (show Den _ _ (.tup items) _ from top_fin r1 (Same.refl _) d1 e1)
      refine ⟨a, rfl, ⟨vs, Same.seqT r1.sub h1⟩, k H1 Hf1 _ r1 s1 fun F' ρ' σ' H' Hf' r' s' hl i => ?_⟩
      have h1' := Same.seqT (s'.trans r'.sub) h1
      have h2' := Dens.mono s' _ _ h2
      refine ⟨fun dd hd => ?_, fun hle => ⟨vs, h1', by rw [← Dens.length h2']; exact hle⟩⟩
      obtain ⟨w, w1, w2⟩ := Dens.get h2' hd
      refine ⟨⟨vs, w, h1', w1⟩, fun x H2 ⟨e, y⟩ => ?_⟩
      subst e
      have := y vs h1'
      rw [w1] at this
      cases this
      exact ⟨Hf', r', Same.refl _, w2⟩
    | scr l =>
      cases e2
      refine .inl (go _ fun o' ρ1' q' v H1 Hf1 r1 s1 d1 => ?_)
      rw [q] at q'
      cases q'
      obtain ⟨a, rfl, h1⟩ := (show Den (ctx X) Hf1 (.scr l) v from top_fin r1 (Same.refl _) d1 e1)
      refine ⟨a, rfl, ⟨_, L2.Same.seq r1.sub h1⟩, k H1 Hf1 _ r1 s1 fun F' ρ' σ' H' Hf' r' s' hl i => ?_⟩
      have h1' := L2.Same.seq (s'.trans r'.sub) h1
      refine ⟨fun dd hd => ?_, fun hle => ⟨_, h1', by simpa using hle⟩⟩
      obtain ⟨w, w1, rfl⟩ : ∃ w, l[i]? = some w ∧ dd = .int w := by
        rw [List.getElem?_map] at hd
        cases z : l[i]? with
        | none => rw [z] at hd; cases hd
        | some w => rw [z] at hd; cases hd; exact ⟨w, rfl, rfl⟩
      have w2 : (l.map V.int)[i]? = some (.int w) := by rw [List.getElem?_map, w1]; rfl
      refine ⟨⟨_, _, h1', w2⟩, fun x H2 ⟨e, y⟩ => ?_⟩
      subst e
      have := y _ h1'
      rw [w2] at this
      cases this
      exact ⟨Hf', r', Same.refl _, rfl⟩
    | str l =>
      cases e2
      refine .inr (.inr (go _ fun o' ρ1' q' v H1 Hf1 r1 s1 d1 => ?_))
      rw [q] at q'
      cases q'
      obtain ⟨rfl, g⟩ := (show Den (ctx X) Hf1 (.str l) v from top_fin r1 (Same.refl _) d1 e1)
      refine ⟨_, rfl, k H1 Hf1 _ r1 s1 fun F' ρ' σ' H' Hf' r' s' hl i => ?_⟩
      refine ⟨fun dd hd => ?_, fun hle => ?_⟩
      · obtain ⟨w, w1, rfl⟩ : ∃ w, l[i]? = some w ∧ dd = .str [w] := by
          rw [List.getElem?_map] at hd
          cases z : l[i]? with
          | none => rw [z] at hd; cases hd
          | some w => rw [z] at hd; cases hd; exact ⟨w, rfl, rfl⟩
        refine ⟨?_, fun x H2 ⟨e, ch, y1, y2⟩ => ?_⟩
        · show i < l.toArray.size
          simpa using lt_of_get w1
        · subst e y2
          have y1 : l.toArray[i]? = some ch := y1
          have : l[i]? = some ch := by simpa using y1
          rw [w1] at this
          cases this
          refine ⟨Hf', r', Same.refl _, rfl, ?_, fun z hz => ?_⟩
          · show 1 ≤ 16777216
            decide
          · have : z = w := by simpa using hz
            rw [this]
            exact g.2 w (List.mem_of_getElem? w1)
      · show l.toArray.size ≤ i
        simpa using hle
    | _ => cases e2
/-- range -/
theorem rng_ok {c : Ct} {lo : Int} {n : Nat} {ms : List ME} {ρ1 : Rho} {σ : St} {Hf1 : Hp} : IterOk c (Itr lo n) (rngD lo n) ms ρ1 σ Hf1 := fun F' ρ' σ' H' Hf' r' s' hl i => by
  refine ⟨fun dd hd => ?_, fun hle => ?_⟩
  · have hi : i < n := by
      have := lt_of_get hd
      simpa [rngD] using this
    have e : dd = .int (lo + i) := by
      unfold rngD at hd
      rw [List.getElem?_map, List.getElem?_range hi] at hd
      cases hd
      rfl
    subst e
    refine ⟨hi, fun x H2 ⟨e, y⟩ => ?_⟩
    subst e y
    exact ⟨Hf', r', Same.refl _, rfl⟩
  · show n ≤ i
    simpa [rngD] using hle
theorem go_pps {ms : List ME} {k : IK} {F : Fr} {ρ : Rho} {σ : St} {H Hf : Hp} {RR : It → Hp → Prop} (r : R (ctx X) F ρ σ H Hf) (p : PostX (ctx X) F W σ k ms RR Hf (pres ms ρ)) {K : List V → Hp → Prop}
    (kk : ∀ os ρ1 vs H1 Hf1 items ds, R (ctx X) F ρ1 σ H1 Hf1 → Same Hf Hf1 → dPs (ctx X) ms σ os vs Hf1 → finL ms os ρ1 = some ds → iterD k ds = some items →
      (∀ J, IterOk (ctx X) J items ms ρ1 σ Hf1 → RR J H1) → K vs H1) : tvG (ctx X) W (dPs (ctx X) ms) (pres ms) σ H K := by
  refine ⟨F, ρ, Hf, r, ?_⟩
  cases q : pres ms ρ with
  | stuck => rw [q] at p; exact p
  | exc n ρ' => rw [q] at p; exact p
  | ok x =>
    obtain ⟨os, ρ1⟩ := x
    rw [q] at p
    obtain ⟨items, e1, k'⟩ := p
    intro vs H1 Hf1 r1 s1 d1
    cases z : finL ms os ρ1 with
    | none => rw [z] at e1; cases e1
    | some ds =>
      rw [z] at e1
      exact kk os ρ1 vs H1 Hf1 items ds r1 s1 d1 z e1 fun J hj => k' H1 Hf1 J r1 s1 hj
theorem i_rng1 {tg e : Expr} {m : ME} {p pos : Pos} (h : SndL X W [e] [m]) (hg : Gl X "range") (hm : X.mg "range" = none) (hs : starEach [e] X.env = [(false, eval e X.env)]) : PI X tg (.Call (.Name "range" p) [e] [] pos) (iX (ctx X) W .rng1 [m]) := by
  refine PI.mono (pi_range1 hg hm h.pps hs) fun σ H RR ⟨F, ρ, Hf, r, p⟩ => ?_
  refine go_pps r p fun os ρ1 vs H1 Hf1 items ds r1 s1 d1 e1 e2 k => ?_
  have tp := tops_finL r1 (Same.refl _) d1 e1
  cases tp with
  | nil => cases e2
  | @cons d v ds' vs' t1 t2 =>
    cases t2 with
    | cons _ _ => cases d <;> cases e2
    | nil =>
      cases d with
      | int n =>
        have e2 : (if n.natAbs ≤ 16777216 then some (rngD 0 n.toNat) else none) = some items := e2
        split at e2
        · rename_i hn
          cases e2
          cases t1
          exact ⟨n, rfl, by omega, by omega, k _ rng_ok⟩
        · cases e2
      | _ => cases e2
theorem i_rng2 {tg e e2 : Expr} {m m2 : ME} {p pos : Pos} (h : SndL X W [e, e2] [m, m2]) (hg : Gl X "range") (hm : X.mg "range" = none) (hs : starEach [e, e2] X.env = [(false, eval e X.env), (false, eval e2 X.env)]) (hs2 : starEach [e2] X.env = [(false, eval e2 X.env)]) : PI X tg (.Call (.Name "range" p) [e, e2] [] pos) (iX (ctx X) W .rng2 [m, m2]) := by
  refine PI.mono (pi_range2 hg hm h.pps hs hs2) fun σ H RR ⟨F, ρ, Hf, r, p⟩ => ?_
  refine go_pps r p fun os ρ1 vs H1 Hf1 items ds r1 s1 d1 e1 e2 k => ?_
  have tp := tops_finL r1 (Same.refl _) d1 e1
  cases tp with
  | nil => cases e2
  | @cons d v ds' vs' t1 t2 =>
    cases t2 with
    | nil => cases d <;> cases e2
    | @cons d2 v2 ds2 vs2 t2 t3 =>
      cases t3 with
      | cons _ _ => cases d <;> cases d2 <;> cases e2
      | nil =>
        cases d <;> cases d2 <;> first | (cases e2; done) | skip
        rename_i a b
        have e2 : (if a.natAbs ≤ 16777216 ∧ b.natAbs ≤ 8000000 ∧ b - a ≤ 16777216 then some (rngD a (b - a).toNat) else none) = some items := e2
        split at e2
        · rename_i hn
          cases e2
          cases t1
          cases t2
          exact ⟨a, b, rfl, by omega, k _ rng_ok⟩
        · cases e2
theorem zipD_at : ∀ (a b : List D) (i : Nat) (d : D), (zipD a b)[i]? = some d → ∃ x y, a[i]? = some x ∧ b[i]? = some y ∧ d = .tup [x, y]
  | x :: a, y :: b, 0, d, h => by
    cases h
    exact ⟨x, y, rfl, rfl, rfl⟩
  | x :: a, y :: b, i + 1, d, h => zipD_at a b i d h
  | [], b, i, d, h => by simp [zipD] at h
  | _ :: _, [], i, d, h => by simp [zipD] at h
theorem zipD_len : ∀ (a b : List D), (zipD a b).length = min a.length b.length
  | x :: a, y :: b => by simp [zipD, zipD_len a b] <;> omega
  | [], b => by simp [zipD]
  | _ :: _, [] => by simp [zipD]
theorem i_zip {e e2 : Expr} {m m2 : ME} {p pos tpos : Pos} {elts : List Expr} {kk : Nat} (h : SndL X W [e, e2] [m, m2]) (hg : Gl X "zip") (hm : X.mg "zip" = none) (hs : starEach [e, e2] X.env = (false, eval e X.env) :: starEach [e2] X.env) (hpl : (backTo pos (starEach [e2] X.env)).any (·.1) = false) :
    PI X (.Tuple elts kk tpos) (.Call (.Name "zip" p) [e, e2] [] pos) (iX (ctx X) W .zip [m, m2]) := by
  refine PI.mono (RZ.pi_zipA hg hm h.pps hs hpl) fun σ H RR ⟨F, ρ, Hf, r, p⟩ => ?_
  refine go_pps r p fun os ρ1 vs H1 Hf1 items ds r1 s1 d1 e1 e2 k => ?_
  have d1' := d1
  obtain ⟨o, os', v, vs', rfl, rfl, q1, o2, os2, v2, vs2, rfl, rfl, q2, rfl, rfl⟩ := d1'
  have hd : ∃ da db, ds = [da, db] ∧ fin m o ρ1 = some da ∧ fin m2 o2 ρ1 = some db := by
    unfold finL at e1
    cases z1 : fin m o ρ1 with
    | none => rw [z1] at e1; cases e1
    | some da =>
      rw [z1] at e1
      unfold finL at e1
      cases z2 : fin m2 o2 ρ1 with
      | none => rw [z2] at e1; cases e1
      | some db =>
        rw [z2] at e1
        cases e1
        exact ⟨da, db, rfl, rfl, rfl⟩
  obtain ⟨da, db, rfl, z1, z2⟩ := hd
  cases da <;> cases db <;> first | (cases e2; done) | skip
  · rename_i la lb
    have e2 : some (zipD la lb) = some items := e2
    cases e2
    obtain ⟨a, vs, rfl, h1, h2⟩ := (show Den _ _ (.tup la) _ from top_fin r1 (Same.refl _) q1 z1)
    obtain ⟨b, ws, rfl, h3, h4⟩ := (show Den _ _ (.tup lb) _ from top_fin r1 (Same.refl _) q2 z2)
    refine ⟨a, b, vs, ws, rfl, .inr ⟨Same.seqT r1.sub h1, Same.seqT r1.sub h3, k _ fun F' ρ' σ' H' Hf' r' s' hl i => ?_⟩⟩
    have h1' := Same.seqT (s'.trans r'.sub) h1
    have h3' := Same.seqT (s'.trans r'.sub) h3
    refine ⟨fun dd hd => ?_, fun hle => ⟨vs, ws, h1', h3', by rw [zipD_len] at hle; rw [← Dens.length h2, ← Dens.length h4]; omega⟩⟩
    obtain ⟨x, y, g1, g2, rfl⟩ := zipD_at la lb i dd hd
    obtain ⟨wx, w1, w2⟩ := Dens.get (Dens.mono s' _ _ h2) g1
    obtain ⟨wy, w3, w4⟩ := Dens.get (Dens.mono s' _ _ h4) g2
    refine ⟨⟨vs, ws, wx, wy, h1', h3', w1, w3⟩, fun x' H2 ⟨T, x1, y1, ex, hT, eH, f1, f2⟩ => ?_⟩
    subst ex eH
    have u1 := f1 vs h1'
    have u2 := f2 ws h3'
    rw [w1] at u1
    rw [w3] at u2
    cases u1
    cases u2
    obtain ⟨r2, s2⟩ := r'.alloc hT (.tup [wx, wy])
    exact ⟨_, r2, s2, T, _, rfl, .inl (.inl upd_same), Dens.mono s2 _ _ ⟨wx, _, rfl, w2, Dens.one w4⟩⟩
  · rename_i la lb
    have e2 : some (zipD la lb) = some items := e2
    cases e2
    obtain ⟨a, vs, rfl, h1, h2⟩ := (show Top _ _ _ (.lst la) _ from top_fin r1 (Same.refl _) q1 z1)
    obtain ⟨b, ws, rfl, h3, h4⟩ := (show Top _ _ _ (.lst lb) _ from top_fin r1 (Same.refl _) q2 z2)
    refine ⟨a, b, vs, ws, rfl, .inl ⟨SqL.of h1, SqL.of h3, k _ fun F' ρ' σ' H' Hf' r' s' hl i => ?_⟩⟩
    obtain ⟨a', vs', ea, h1', h2'⟩ := (show Top _ _ _ (.lst la) _ from src_top r1 (Same.refl _) q1 z1 List.mem_cons_self r' s' hl)
    obtain ⟨b', ws', eb, h3', h4'⟩ := (show Top _ _ _ (.lst lb) _ from src_top r1 (Same.refl _) q2 z2 (List.mem_cons_of_mem _ List.mem_cons_self) r' s' hl)
    cases ea
    cases eb
    refine ⟨fun dd hd => ?_, fun hle => ⟨vs', ws', SqL.of h1', SqL.of h3', by rw [zipD_len] at hle; rw [← Dens.length h2', ← Dens.length h4']; omega⟩⟩
    obtain ⟨x, y, g1, g2, rfl⟩ := zipD_at la lb i dd hd
    obtain ⟨wx, w1, w2⟩ := Dens.get h2' g1
    obtain ⟨wy, w3, w4⟩ := Dens.get h4' g2
    refine ⟨⟨vs', ws', wx, wy, SqL.of h1', SqL.of h3', w1, w3⟩, fun x' H2 ⟨T, x1, y1, ex, hT, eH, f1, f2⟩ => ?_⟩
    subst ex eH
    have u1 := f1 vs' (SqL.of h1')
    have u2 := f2 ws' (SqL.of h3')
    rw [w1] at u1
    rw [w3] at u2
    cases u1
    cases u2
    obtain ⟨r2, s2⟩ := r'.alloc hT (.tup [wx, wy])
    exact ⟨_, r2, s2, T, _, rfl, .inl (.inl upd_same), Dens.mono s2 _ _ ⟨wx, _, rfl, w2, Dens.one w4⟩⟩
theorem enumD_at : ∀ (l : List D) (n i : Nat) (d : D), (enumD n l)[i]? = some d → ∃ x, l[i]? = some x ∧ d = .tup [.int ((n + i : Nat) : Int), x]
  | x :: l, n, 0, d, h => by
    cases h
    exact ⟨x, rfl, rfl⟩
  | x :: l, n, i + 1, d, h => by
    obtain ⟨y, h1, h2⟩ := enumD_at l (n + 1) i d h
    exact ⟨y, h1, by rw [h2, show n + 1 + i = n + (i + 1) by omega]⟩
  | [], n, i, d, h => by simp [enumD] at h
theorem enumD_len : ∀ (l : List D) (n : Nat), (enumD n l).length = l.length
  | [], n => rfl
  | x :: l, n => by simp [enumD, enumD_len l]
theorem i_enum {e : Expr} {m : ME} {p pos tpos : Pos} {elts : List Expr} {kk : Nat} (h : SndL X W [e] [m]) (hg : Gl X "enumerate") (hm : X.mg "enumerate" = none) (hs : starEach [e] X.env = [(false, eval e X.env)]) :
    PI X (.Tuple elts kk tpos) (.Call (.Name "enumerate" p) [e] [] pos) (iX (ctx X) W .enum [m]) := by
  refine PI.mono (pi_enum hg hm h.pps hs) fun σ H RR ⟨F, ρ, Hf, r, p⟩ => ?_
  refine go_pps r p fun os ρ1 vs H1 Hf1 items ds r1 s1 d1 e1 e2 k => ?_
  have d1' := d1
  obtain ⟨o, os', v, vs', rfl, rfl, q1, rfl, rfl⟩ := d1'
  rw [finL_one] at e1
  cases z1 : fin m o ρ1 with
  | none => rw [z1] at e1; cases e1
  | some da =>
    rw [z1] at e1
    cases e1
    cases da with
    | lst la =>
      have e2 : some (enumD 0 la) = some items := e2
      cases e2
      obtain ⟨a, vs, rfl, h1, h2⟩ := (show Top _ _ _ (.lst la) _ from top_fin r1 (Same.refl _) q1 z1)
      refine ⟨a, vs, rfl, SqL.of h1, k _ fun F' ρ' σ' H' Hf' r' s' hl i => ?_⟩
      obtain ⟨a', vs', ea, h1', h2'⟩ := (show Top _ _ _ (.lst la) _ from src_top r1 (Same.refl _) q1 z1 List.mem_cons_self r' s' hl)
      cases ea
      refine ⟨fun dd hd => ?_, fun hle => ⟨vs', SqL.of h1', by rw [enumD_len] at hle; rw [← Dens.length h2']; exact hle⟩⟩
      obtain ⟨x, g1, rfl⟩ := enumD_at la 0 i dd hd
      obtain ⟨wx, w1, w2⟩ := Dens.get h2' g1
      refine ⟨⟨vs', wx, SqL.of h1', w1⟩, fun x' H2 ⟨T, x1, ex, hT, eH, f1⟩ => ?_⟩
      subst ex eH
      have u1 := f1 vs' (SqL.of h1')
      rw [w1] at u1
      cases u1
      obtain ⟨r2, s2⟩ := r'.alloc hT (.tup [.int (i : Nat), wx])
      rw [Nat.zero_add]
      exact ⟨_, r2, s2, T, _, rfl, .inl (.inl upd_same), Dens.mono s2 _ _ ⟨_, _, rfl, rfl, Dens.one w2⟩⟩
    | _ => cases e2
end
end NV

/-! NV.L: targets and comprehensions. -/
namespace NV
open PySem PySem.Spec PyProof.Rows L2

/-! ### forgotten slots -/
theorem wipe_get (σ : St) : ∀ (vs : List Nat) (j : Nat), (wipe σ vs)[j]? = if j ∈ vs then (σ[j]?).map (fun _ => none) else σ[j]?
  | [], j => by simp [wipe]
  | v :: vs, j => by
    unfold wipe
    by_cases hj : v = j
    · subst hj
      rw [if_pos List.mem_cons_self]
      by_cases hl : v < σ.length
      · rw [List.getElem?_set_self (by rw [wipe_length]; exact hl), List.getElem?_eq_getElem hl]
        rfl
      · rw [List.getElem?_eq_none (by rw [List.length_set, wipe_length]; omega), List.getElem?_eq_none (by omega)]
        rfl
    · rw [List.getElem?_set_ne hj, wipe_get σ vs j]
      by_cases hm : j ∈ vs
      · rw [if_pos hm, if_pos (List.mem_cons_of_mem _ hm)]
      · rw [if_neg hm, if_neg (fun z => (List.mem_cons.mp z).elim (fun z => hj z.symm) hm)]
theorem wipe_set {σ : St} {vs : List Nat} {i : Nat} {x : Option V} (hi : i ∈ vs) : wipe (σ.set i x) vs = wipe σ vs := by
  refine List.ext_getElem? fun j => ?_
  rw [wipe_get, wipe_get]
  by_cases hj : j ∈ vs
  · rw [if_pos hj, if_pos hj]
    by_cases hij : i = j
    · subst hij
      by_cases hl : i < σ.length
      · rw [List.getElem?_set_self hl, List.getElem?_eq_getElem hl]; rfl
      · rw [List.getElem?_eq_none (by rw [List.length_set]; omega), List.getElem?_eq_none (by omega)]
    · rw [List.getElem?_set_ne hij]
  · rw [if_neg hj, if_neg hj, List.getElem?_set_ne (fun z : i = j => hj (z ▸ hi))]
theorem wipe_wipe (σ : St) (vs : List Nat) : wipe (wipe σ vs) vs = wipe σ vs := by
  refine List.ext_getElem? fun j => ?_
  rw [wipe_get, wipe_get]
  by_cases hj : j ∈ vs
  · rw [if_pos hj, if_pos hj]
    cases σ[j]? <;> rfl
  · rw [if_neg hj, if_neg hj]
theorem wipe_com (σ : St) (vs : List Nat) (v : Nat) : wipe (σ.set v none) vs = (wipe σ vs).set v none := by
  refine List.ext_getElem? fun j => ?_
  rw [wipe_get]
  by_cases hij : v = j
  · subst hij
    by_cases hl : v < σ.length
    · rw [List.getElem?_set_self hl, List.getElem?_set_self (by rw [wipe_length]; exact hl)]
      split <;> rfl
    · rw [List.getElem?_eq_none (by rw [List.length_set]; omega), List.getElem?_eq_none (by rw [List.length_set, wipe_length]; omega)]
      split <;> rfl
  · rw [List.getElem?_set_ne hij, List.getElem?_set_ne hij, wipe_get]
section
variable {c : Ct} {F F' : Fr} {ρ ρ' ρ1 : Rho} {σ : St} {H Hf H1 Hf1 : Hp}
theorem R.wipe : ∀ {vs : List Nat} {ρ : Rho} {σ : St}, R c F ρ σ H Hf → wipeE vs ρ = some ρ' → R c F ρ' (L2.wipe σ vs) H Hf
  | [], ρ, σ, r, h => by
    cases h
    exact r
  | v :: vs, ρ, σ, r, h => by
    unfold wipeE at h
    have go : ∀ e0, ρ[v]? = some e0 → (e0 = .un ∨ ∃ d, e0 = .im d) → wipeE vs (ρ.set v .un) = some ρ' → R c F ρ' (L2.wipe σ (v :: vs)) H Hf := fun e0 q k h => by
      have r2 : R c F (ρ.set v .un) (σ.set v none) H Hf := r.setUn (by
        unfold setE
        rw [q]
        rcases k with rfl | ⟨d, rfl⟩ <;> rfl)
      have r3 := R.wipe r2 h
      rw [wipe_com] at r3
      exact r3
    split at h
    · rename_i q
      exact go _ q (.inl rfl) h
    · rename_i d q
      exact go _ q (.inr ⟨d, rfl⟩) h
    · cases h
theorem wipeE_len : ∀ {vs : List Nat} {ρ : Rho}, wipeE vs ρ = some ρ' → ρ'.length = ρ.length
  | [], ρ, h => by cases h; rfl
  | v :: vs, ρ, h => by
    unfold wipeE at h
    split at h
    · rw [wipeE_len h, List.length_set]
    · rw [wipeE_len h, List.length_set]
    · cases h
/-- what was wiped was no own container -/
theorem wipeE_at : ∀ {vs : List Nat} {ρ : Rho}, wipeE vs ρ = some ρ' → ∀ j ∈ vs, ρ[j]? = some .un ∨ ∃ d, ρ[j]? = some (.im d)
  | [], ρ, h, j, hj => by cases hj
  | v :: vs, ρ, h, j, hj => by
    unfold wipeE at h
    have go : wipeE vs (ρ.set v .un) = some ρ' → (ρ[v]? = some .un ∨ ∃ d, ρ[v]? = some (.im d)) → ρ[j]? = some .un ∨ ∃ d, ρ[j]? = some (.im d) := fun h k => by
      by_cases hv : v = j
      · subst hv; exact k
      · have := wipeE_at h j ((List.mem_cons.mp hj).resolve_left fun z => hv z.symm)
        rw [List.getElem?_set_ne hv] at this
        exact this
    split at h
    · rename_i q
      exact go h (.inl q)
    · rename_i d q
      exact go h (.inr ⟨d, q⟩)
    · cases h
theorem backE_len (ρ0 : Rho) : ∀ (vs : List Nat) (ρ : Rho), (backE ρ0 vs ρ).length = ρ.length
  | [], ρ => rfl
  | v :: vs, ρ => by
    unfold backE
    rw [backE_len ρ0 vs, List.length_set]
theorem backE_at (ρ0 : Rho) : ∀ (vs : List Nat) (ρ : Rho) (j : Nat), (backE ρ0 vs ρ)[j]? = if j ∈ vs ∧ j < ρ.length then some (ρ0[j]?.getD .un) else ρ[j]?
  | [], ρ, j => by simp [backE]
  | v :: vs, ρ, j => by
    unfold backE
    rw [backE_at ρ0 vs, List.length_set]
    by_cases hl : j < ρ.length
    · by_cases hm : j ∈ vs
      · rw [if_pos ⟨hm, hl⟩, if_pos ⟨List.mem_cons_of_mem _ hm, hl⟩]
      · rw [if_neg (fun z => hm z.1)]
        by_cases hv : v = j
        · subst hv
          rw [if_pos ⟨List.mem_cons_self, hl⟩, List.getElem?_set_self hl]
        · rw [if_neg (fun z => (List.mem_cons.mp z.1).elim (fun z => hv z.symm) hm), List.getElem?_set_ne hv]
    · rw [if_neg (fun z => hl z.2), if_neg (fun z => hl z.2), List.getElem?_eq_none (by rw [List.length_set]; omega), List.getElem?_eq_none (by omega)]
/-- the slots put back -/
theorem R.back {vs : List Nat} {ρe : Rho} {He Hfe : Hp} (r1 : R c F ρ1 σ H1 Hf1) (hv : ∀ j ∈ vs, ρ1[j]? = some .un ∨ ∃ d, ρ1[j]? = some (.im d)) (r : R c F' ρe (L2.wipe σ vs) He Hfe) (s : Same Hf1 Hfe) : R c F' (backE ρ1 vs ρe) σ He Hfe := by
  have hl : ρe.length = σ.length := by rw [r.len, wipe_length]
  -- what an entry is
  have at_ : ∀ j e, (backE ρ1 vs ρe)[j]? = some e → (j ∉ vs ∧ ρe[j]? = some e ∧ (L2.wipe σ vs)[j]? = σ[j]?) ∨ (j ∈ vs ∧ ρ1[j]? = some e ∧ (e = .un ∨ ∃ d, e = .im d)) := fun j e h => by
    rw [backE_at] at h
    by_cases hm : j ∈ vs
    · by_cases hj : j < ρe.length
      · rw [if_pos ⟨hm, hj⟩] at h
        rcases hv j hm with q | ⟨d, q⟩
        · rw [q] at h
          cases h
          exact .inr ⟨hm, q, .inl rfl⟩
        · rw [q] at h
          cases h
          exact .inr ⟨hm, q, .inr ⟨d, rfl⟩⟩
      · rw [if_neg (fun z => hj z.2), List.getElem?_eq_none (by omega)] at h
        cases h
    · rw [if_neg (fun z => hm z.1)] at h
      exact .inl ⟨hm, h, by rw [wipe_get, if_neg hm]⟩
  have oa : ∀ i a, OwnAt (backE ρ1 vs ρe) σ i a → OwnAt ρe (L2.wipe σ vs) i a := fun i a ⟨e, d, h1, h2, h3⟩ => by
    rcases at_ i e h1 with ⟨q1, q2, q3⟩ | ⟨q1, q2, q3⟩
    · exact ⟨e, d, q2, h2, by rw [q3]; exact h3⟩
    · rcases q3 with rfl | ⟨d', rfl⟩ <;> cases h2
  refine ⟨by rw [backE_len]; exact hl, r.sub, r.subf, r.live, r.keep, r.out, fun i d h => ?_, fun i e d h1 h2 => ?_, fun i j a h1 h2 => r.dist i j a (oa _ _ h1) (oa _ _ h2), fun i d a h1 h2 => ?_, fun i d a h1 h2 => ?_, fun i a o h => ?_, fun i d h => ?_, fun b u q => ?_⟩
  · rcases at_ i _ h with ⟨q1, q2, q3⟩ | ⟨q1, q2, q3⟩
    · obtain ⟨v, w1, w2⟩ := r.im i d q2
      exact ⟨v, by rw [← q3]; exact w1, w2⟩
    · obtain ⟨v, w1, w2⟩ := r1.im i d q2
      exact ⟨v, w1, Den.mono s _ _ w2⟩
  · rcases at_ i _ h1 with ⟨q1, q2, q3⟩ | ⟨q1, q2, q3⟩
    · obtain ⟨a, w1, w2⟩ := r.own i e d q2 h2
      exact ⟨a, by rw [← q3]; exact w1, w2⟩
    · rcases q3 with rfl | ⟨d', rfl⟩ <;> cases h2
  · rcases at_ i _ h1 with ⟨q1, q2, q3⟩ | ⟨q1, q2, q3⟩
    · exact r.ow i d a q2 (by rw [q3]; exact h2)
    · rcases q3 with q3 | ⟨d', q3⟩ <;> cases q3
  · rcases at_ i _ h1 with ⟨q1, q2, q3⟩ | ⟨q1, q2, q3⟩
    · exact r.io i d a q2 (by rw [q3]; exact h2)
    · rcases q3 with q3 | ⟨d', q3⟩ <;> cases q3
  · obtain ⟨w1, e, w2, w3⟩ := r.pin i a o h
    obtain ⟨z1, z2⟩ := wipe_some w1
    exact ⟨z1, e, by rw [backE_at, if_neg (fun z => z2 z.1)]; exact w2, w3⟩
  · rcases at_ i _ h with ⟨q1, q2, q3⟩ | ⟨q1, q2, q3⟩
    · exact r.brL i d q2
    · rcases q3 with q3 | ⟨d', q3⟩ <;> cases q3
  · obtain ⟨q1, q2, q3⟩ := r.grd b u q
    exact ⟨q1, q2, fun i w => q3 i (oa _ _ w)⟩
end

/-! ### targets -/
def gNs : List Nat → TGs
  | [] => gNil
  | i :: is => gCons (gName i) (gNs is)
def gT (c : Ct) : Tg → TG
  | .nm i => gName i
  | .tp l => gTup c.K l.length (gNs l)
def tgIdx : Tg → List Nat
  | .nm i => [i]
  | .tp l => l
theorem setTs_len : ∀ {l : List Nat} {ds : List D} {ρ ρ' : Rho}, setTs l ds ρ = some ρ' → ds.length = l.length
  | [], [], _, _, _ => rfl
  | [], _ :: _, _, _, h => by cases h
  | _ :: _, [], _, _, h => by cases h
  | i :: is, d :: ds, ρ, ρ', h => by
    unfold setTs at h
    split at h
    · rw [List.length_cons, List.length_cons, setTs_len h]
    · cases h
section
variable {c : Ct} {F : Fr} {H Hf : Hp}
theorem gNs_ok : ∀ {l : List Nat} {ds : List D} {vs : List V} {ρ ρ' : Rho} {σ : St} {Q : St → Hp → Prop}, R c F ρ σ H Hf → Dens c Hf ds vs → setTs l ds ρ = some ρ' →
    (∀ σ2, R c F ρ' σ2 H Hf → (∀ own, (∀ i ∈ l, i ∈ own) → wipe σ2 own = wipe σ own) → Q σ2 H) → gNs l vs σ H Q
  | [], ds, vs, ρ, ρ', σ, Q, r, dn, h, k => by
    cases ds with
    | cons _ _ => cases h
    | nil =>
      cases h
      exact ⟨Dens.nil_iff.mp dn, k σ r fun _ _ => rfl⟩
  | i :: is, ds, vs, ρ, ρ', σ, Q, r, dn, h, k => by
    cases ds with
    | nil => cases h
    | cons d ds =>
      obtain ⟨v, vs', rfl, d1, d2⟩ := dn
      unfold setTs at h
      cases q : setE ρ i (.im d) with
      | none => rw [q] at h; cases h
      | some ρ2 =>
        rw [q] at h
        refine ⟨v, vs', rfl, gNs_ok (r.setIm q d1) d2 h fun σ2 r2 w2 => k σ2 r2 fun own ho => ?_⟩
        rw [w2 own fun j hj => ho j (List.mem_cons_of_mem _ hj), wipe_set (ho i List.mem_cons_self)]
theorem gT_ok {tg : Tg} {d : D} {v : V} {ρ ρ' : Rho} {σ : St} {Q : St → Hp → Prop} (r : R c F ρ σ H Hf) (dn : Den c Hf d v) (h : setT tg d ρ = some ρ')
    (k : ∀ σ2, R c F ρ' σ2 H Hf → (∀ own, (∀ i ∈ tgIdx tg, i ∈ own) → wipe σ2 own = wipe σ own) → Q σ2 H) : gT c tg v σ H Q := by
  cases tg with
  | nm i => exact k _ (r.setIm h dn) fun own ho => wipe_set (ho i List.mem_cons_self)
  | tp l =>
    cases d with
    | tup ds =>
      obtain ⟨a, vs, rfl, h1, h2⟩ := dn
      have h : setTs l ds ρ = some ρ' := h
      exact ⟨a, vs, rfl, Same.seqT r.sub h1, by rw [← Dens.length h2, setTs_len h], gNs_ok r h2 h k⟩
    | _ => cases h
end

/-! ### comprehensions -/
abbrev W0 : WX := fun _ _ _ _ => False
/-- the turns so far: the new list at D -/
def CI (c : Ct) (F0 : Fr) (D : Addr) (σw : St) (Hf1 : Hp) (elt : Ev) (ifs : Rho → Out Rho (Bool × Rho)) (tg : Tg) (own : List Nat) (items all : List NV.D) (ρe : Rho) (i : Nat) (H : Hp) : Prop :=
  ∃ ρi Hfi acc ds rest, R c (F0.grd D (.lst acc)) ρi σw H Hfi ∧ Same Hf1 Hfi ∧ Dens c Hfi ds acc ∧ compLoop elt ifs tg own (items.drop i) ρi = .ok (rest, ρe) ∧ ds ++ rest = all ∧ acc.length ≤ i
theorem lc_wish {c : Ct} {W : WX} {k : IK} {args : List ME} {m : ME} {tg : Tg} {ifs : List ME} {own : List Nat} {σ : St} {H : Hp} {Q : VK} (ho : ∀ i ∈ tgIdx tg, i ∈ own)
    (h : tvF c W (ev (.comp m tg k args ifs own)) σ H Q) : tLc (iX c W k args) (gT c tg) (tvG c W0 dI (evIfs ifs)) (tv c W0 (ev m)) own σ H Q := by
  obtain ⟨F, ρ, Hf, r, p⟩ := h
  have p : PostF c F W σ Q Hf ((pres args ρ).bind fun x => match (finL args x.1 x.2).bind (iterD k) with
    | none => .stuck
    | some items => match if items.length ≤ szl then wipeE own (lockE args x.2) else none with
      | none => .stuck
      | some ρ2 => (noexc (compLoop (ev m) (evIfs ifs) tg own items ρ2)).bind fun y => .ok (.lst y.1, unlockE x.2 args (backE x.2 own y.2))) := p
  refine ⟨F, ρ, Hf, r, ?_⟩
  cases q : pres args ρ with
  | stuck => rw [q] at p; exact p.elim
  | exc n ρ' => rw [q] at p; exact p
  | ok x =>
    obtain ⟨os, ρ1⟩ := x
    rw [q] at p
    have p : PostF c F W σ Q Hf (match (finL args os ρ1).bind (iterD k) with
      | none => .stuck
      | some items => match if items.length ≤ szl then wipeE own (lockE args ρ1) else none with
        | none => .stuck
        | some ρ2 => (noexc (compLoop (ev m) (evIfs ifs) tg own items ρ2)).bind fun y => .ok (.lst y.1, unlockE ρ1 args (backE ρ1 own y.2))) := p
    cases q2 : (finL args os ρ1).bind (iterD k) with
    | none => rw [q2] at p; exact p.elim
    | some items =>
      rw [q2] at p
      have p : PostF c F W σ Q Hf (match if items.length ≤ szl then wipeE own (lockE args ρ1) else none with
        | none => .stuck
        | some ρ2 => (noexc (compLoop (ev m) (evIfs ifs) tg own items ρ2)).bind fun y => .ok (.lst y.1, unlockE ρ1 args (backE ρ1 own y.2))) := p
      by_cases hz : items.length ≤ szl
      · rw [if_pos hz] at p
        cases q3 : wipeE own (lockE args ρ1) with
        | none => rw [q3] at p; exact p.elim
        | some ρ2 =>
          rw [q3] at p
          have p : PostF c F W σ Q Hf ((noexc (compLoop (ev m) (evIfs ifs) tg own items ρ2)).bind fun y => .ok (.lst y.1, unlockE ρ1 args (backE ρ1 own y.2))) := p
          cases q4 : compLoop (ev m) (evIfs ifs) tg own items ρ2 with
          | stuck => rw [q4] at p; exact p.elim
          | exc n ρ' => rw [q4] at p; exact p.elim
          | ok y =>
            obtain ⟨all, ρe⟩ := y
            rw [q4] at p
            have p : PostF c F W σ Q Hf (.ok (.lst all, unlockE ρ1 args (backE ρ1 own ρe))) := p
            refine ⟨items, q2, fun H1 Hf1 J r1 s1 it D hD => ?_⟩
            refine ⟨fun i mm H => mm = items.length - i ∧ i ≤ items.length ∧ CI c (F.lock args ρ1 σ) D (wipe σ own) Hf1 (ev m) (evIfs ifs) tg own items all ρe i H, ⟨items.length, by simp, Nat.zero_le _, ?_⟩, ?_⟩
            · -- at first
              have r2 := (r1.lock args).wipe q3
              have r3 := r2.allocOwn hD (.lst [])
              obtain ⟨f1, f2⟩ := r2.free hD
              have r4 := r3.guard (a := D) (o := .lst []) upd_same f1 fun i hi => r2.own_ne hi hD rfl
              exact ⟨ρ2, Hf1, [], [], all, r4, Same.refl _, Dens.nil_iff.mpr rfl, q4, rfl, Nat.le_refl _⟩
            · rintro i mm Hi ⟨rfl, hi, ρi, Hfi, acc, ds, rest, ri, si, di, ei, ai, li⟩
              have hF : ∀ o, (F.lock args ρ1 σ).G D ≠ some o := fun o z => by
                have := (r1.grd D o z).1
                rw [hD] at this
                cases this
              have hF0 : (F.lock args ρ1 σ).H0 D = none := (r1.free hD).2
              have hG : (F.lock args ρ1 σ).G D = none := by
                cases z : (F.lock args ρ1 σ).G D with
                | none => rfl
                | some o => exact absurd z (hF o)
              have iti := it _ ρi (wipe σ own) Hi Hfi ri si (fun j a d h1 h2 => ?_) i
              rotate_left
              · -- what is walked is pinned
                exact .inr ⟨d, rfl, h1, h2⟩
              by_cases hlt : i < items.length
              · have hdrop : items.drop i = items[i] :: items.drop (i + 1) := List.drop_eq_getElem_cons hlt
                rw [hdrop] at ei
                have ei : ((compStep (ev m) (evIfs ifs) tg own items[i] ρi).bind fun r => (compLoop (ev m) (evIfs ifs) tg own (items.drop (i + 1)) r.2).bind fun q => .ok (r.1 ++ q.1, q.2)) = (.ok (rest, ρe) : Out Rho (List NV.D × Rho)) := ei
                cases c1 : compStep (ev m) (evIfs ifs) tg own items[i] ρi with
                | stuck => rw [c1] at ei; cases ei
                | exc _ _ => rw [c1] at ei; cases ei
                | ok u =>
                  obtain ⟨ns, ρn⟩ := u
                  rw [c1] at ei
                  have ei : ((compLoop (ev m) (evIfs ifs) tg own (items.drop (i + 1)) ρn).bind fun q => .ok (ns ++ q.1, q.2)) = (.ok (rest, ρe) : Out Rho (List NV.D × Rho)) := ei
                  cases c2 : compLoop (ev m) (evIfs ifs) tg own (items.drop (i + 1)) ρn with
                  | stuck => rw [c2] at ei; cases ei
                  | exc _ _ => rw [c2] at ei; cases ei
                  | ok w =>
                    obtain ⟨rest', ρe'⟩ := w
                    rw [c2] at ei
                    cases ei
                    obtain ⟨hgo, hy⟩ := iti.1 items[i] (List.getElem?_eq_getElem hlt)
                    refine .inr ⟨hgo, CI c (F.lock args ρ1 σ) D (wipe σ own) Hf1 (ev m) (evIfs ifs) tg own items all ρe' (i + 1), fun H' n' => ⟨items.length - (i + 1), by omega, rfl, hlt, n'⟩, fun x H2 y => ?_⟩
                    obtain ⟨Hf2, r2, s2, d2⟩ := hy x H2 y
                    unfold compStep at c1
                    cases c3 : setT tg items[i] ρi with
                    | none => rw [c3] at c1; cases c1
                    | some ρ3 =>
                      rw [c3] at c1
                      refine gT_ok r2 d2 c3 fun σ2 r3 w3 => ⟨by rw [w3 own ho, wipe_wipe], ?_⟩
                      have hwi : wipe σ2 own = wipe σ own := by rw [w3 own ho, wipe_wipe]
                      refine ⟨_, ρ3, Hf2, r3, ?_⟩
                      have c1 : ((evIfs ifs ρ3).bind fun r => if r.1 then (ev m r.2).bind fun x => wiped own [x.1] x.2 else wiped own [] r.2) = (.ok (ns, ρn) : Out Rho (List NV.D × Rho)) := c1
                      cases c4 : evIfs ifs ρ3 with
                      | stuck => rw [c4] at c1; cases c1
                      | exc _ _ => rw [c4] at c1; cases c1
                      | ok u =>
                        obtain ⟨b, ρ4⟩ := u
                        rw [c4] at c1
                        intro b' H3 Hf3 r4 s4 e4
                        have e4 : b = b' := e4
                        subst e4
                        have wipedOk : ∀ {ns' : List NV.D} {ρ5 : Rho}, wiped own ns' ρ5 = (.ok (ns, ρn) : Out Rho (List NV.D × Rho)) → ns' = ns ∧ wipeE own ρ5 = some ρn := fun {ns' ρ5} z => by
                          unfold wiped at z
                          cases z2 : wipeE own ρ5 with
                          | none => rw [z2] at z; cases z
                          | some _ => rw [z2] at z; cases z; exact ⟨rfl, rfl⟩
                        cases b with
                        | false =>
                          obtain ⟨z1, z2⟩ := wipedOk (show wiped own [] ρ4 = _ from c1)
                          subst z1
                          rw [if_neg (by simp)]
                          have r5 := r4.wipe z2
                          rw [hwi] at r5
                          exact ⟨ρn, Hf3, acc, ds, rest', r5, si.trans (s2.trans s4), Dens.mono (s2.trans s4) _ _ di, c2, by simpa using ai, by omega⟩
                        | true =>
                          rw [if_pos rfl]
                          refine ⟨_, ρ4, Hf3, r4, ?_⟩
                          have c1 : ((ev m ρ4).bind fun x => wiped own [x.1] x.2) = (.ok (ns, ρn) : Out Rho (List NV.D × Rho)) := c1
                          cases c5 : ev m ρ4 with
                          | stuck => rw [c5] at c1; cases c1
                          | exc _ _ => rw [c5] at c1; cases c1
                          | ok u =>
                            obtain ⟨dy, ρ5⟩ := u
                            rw [c5] at c1
                            obtain ⟨z1, z2⟩ := wipedOk (show wiped own [dy] ρ5 = _ from c1)
                            subst z1
                            intro vy H4 Hf4 r5 s5 d5
                            obtain ⟨g1, g2, g3⟩ := r5.grd_at
                            refine ⟨acc, g1, by rw [← szl_eq]; omega, ?_⟩
                            have r6 := (r5.unguard hG).touch (o := .lst (acc ++ [vy])) g2 hF0 g3 hG
                            have r7 := (r6.guard upd_same g2 g3).wipe z2
                            rw [hwi] at r7
                            have ss := s2.trans (s4.trans s5)
                            exact ⟨ρn, Hf4, acc ++ [vy], ds ++ [dy], rest', r7, si.trans ss, Dens.append (Dens.mono ss _ _ di) (Dens.one d5), c2, by simpa using ai, by simp; omega⟩
              · have hil : i = items.length := by omega
                subst hil
                refine .inl ⟨iti.2 (Nat.le_refl _), ?_⟩
                rw [List.drop_length] at ei
                cases ei
                have ai : ds = all := by simpa using ai
                subst ai
                obtain ⟨g1, g2, g3⟩ := ri.grd_at
                have hown : ∀ j ∈ own, ρ1[j]? = some .un ∨ ∃ d, ρ1[j]? = some (.im d) := fun j hj => by
                  have := wipeE_at q3 j hj
                  rcases lockE_at args ρ1 j with z | ⟨d, z1, z2⟩
                  · rw [z] at this; exact this
                  · rw [z2] at this
                    rcases this with this | ⟨_, this⟩ <;> cases this
                have rb := R.back r1 hown (ri.unguard hG) si
                have ru := r1.unlock rb
                refine p D Hi Hfi ru (s1.trans si) ⟨g2, acc, g1, di⟩ hF0 (fun j hj => ?_) hG
                -- no own name holds it
                obtain ⟨e, d, w1, w2, w3⟩ := hj
                have hoa : ∃ e' d', (backE ρ1 own ρe)[j]? = some e' ∧ e'.own? = some d' := by
                  have hjl : j < (backE ρ1 own ρe).length := by
                    have := lt_of_get w1
                    rw [unlockE_len] at this
                    exact this
                  rcases unlockE_at ρ1 args (backE ρ1 own ρe) j hjl with ⟨u1, _⟩ | ⟨u1, ⟨d3, u2⟩, u3⟩
                  · rw [u1] at w1; exact ⟨e, d, w1, w2⟩
                  · -- a locked one
                    rw [u3] at w1
                    obtain ⟨b, y1, y2⟩ := r1.own j e d w1 w2
                    rw [w3] at y1
                    cases y1
                    obtain ⟨o, y3⟩ := y2.there
                    rw [hD] at y3
                    cases y3
                obtain ⟨e', d', v1, v2⟩ := hoa
                rw [backE_at] at v1
                by_cases hm : j ∈ own ∧ j < ρe.length
                · rw [if_pos hm] at v1
                  rcases hown j hm.1 with z | ⟨d3, z⟩ <;> (rw [z] at v1; cases v1; cases v2)
                · rw [if_neg hm] at v1
                  have hjn : j ∉ own := fun z => hm ⟨z, lt_of_get v1⟩
                  exact g3 j ⟨e', d', v1, v2, by rw [wipe_get, if_neg hjn]; exact w3⟩
      · rw [if_neg hz] at p; exact p.elim
end NV

/-! NV.M: statements. -/
namespace NV
open PySem PySem.Spec PyProof.Rows L2

def PostS (c : Ct) (F : Fr) (W : WX) (fr : Bool) (D : Ends) (Hf : Hp) : ResS → Prop
  | .stuck => False
  | .ok (.nx, ρ') => ∀ σ' H' Hf', R c F ρ' σ' H' Hf' → Same Hf Hf' → D.nx σ' H'
  | .ok (.ret d, ρ') => ∀ σ' v H' Hf', R c F ρ' σ' H' Hf' → Same Hf Hf' → (if fr then ∃ a, v = .ref a ∧ Own c Hf' H' d a ∧ F.H0 a = none else Den c Hf' d v) → D.rt v H'
  | .exc n ρ' => ∀ σ' H' Hf' C, R c F ρ' σ' H' Hf' → Same Hf Hf' → c.mg (Str.ofString n) = some (.ref C) → W (.ref C) none σ' H'
def tvS (c : Ct) (W : WX) (fr : Bool) (e : EvS) : TS := fun D σ H => ∃ F ρ Hf, R c F ρ σ H Hf ∧ PostS c F W fr D Hf (e ρ)
theorem PostS.mono {c : Ct} {F : Fr} {W : WX} {fr : Bool} {D : Ends} {Hf Hf' : Hp} (s : Same Hf Hf') {o : ResS} (p : PostS c F W fr D Hf o) : PostS c F W fr D Hf' o := by
  cases o with
  | stuck => exact p
  | ok a =>
    obtain ⟨f, ρ'⟩ := a
    cases f with
    | nx => exact fun σ' H' Hf2 r s2 => p σ' H' Hf2 r (s.trans s2)
    | ret d => exact fun σ' v H' Hf2 r s2 => p σ' v H' Hf2 r (s.trans s2)
  | exc n ρ' => exact fun σ' H' Hf2 C r s2 m => p σ' H' Hf2 C r (s.trans s2) m
theorem PS.mono {X : Cx} {st : Stmt} {t t' : TS} (h : PS X st t) (k : ∀ D σ H, t' D σ H → t D σ H) : PS X st t' := ⟨fun pins s σ H D I q => h.run pins s σ H D I (k D σ H q)⟩
theorem PSs.mono {X : Cx} {st : List Stmt} {t t' : TS} (h : PSs X st t) (k : ∀ D σ H, t' D σ H → t D σ H) : PSs X st t' := ⟨fun pins s σ H D I q => h.run pins s σ H D I (k D σ H q)⟩
structure SndS (X : Cx) (W : WX) (fr : Bool) (n : Nat) (st : Stmt) (m : MS) : Prop where
  ps : PS X st (tvS (ctx X) W fr (evS n m))
structure SndB (X : Cx) (W : WX) (fr : Bool) (n : Nat) (st : List Stmt) (m : List MS) : Prop where
  ps : PSs X st (tvS (ctx X) W fr (evSs n m))
section
variable {X : Cx} {W : WX} {fr : Bool} {n : Nat} {st : Stmt} {sts : List Stmt} {m : MS} {ms : List MS} {pos : Pos}
/-- an expression ahead of the rest of a statement -/
theorem stepS {c : Ct} {α β : Type} {F : Fr} {ρ : Rho} {σ : St} {H Hf : Hp} {D : Ends} {dnS : St → α → β → Hp → Prop} {Q' : β → Hp → Prop} {e : Rho → Out Rho (α × Rho)} {f : α × Rho → ResS} (r : R c F ρ σ H Hf) (p : PostS c F W fr D Hf ((e ρ).bind f))
    (k : ∀ a ρ' b H' Hf', R c F ρ' σ H' Hf' → Same Hf Hf' → dnS σ a b Hf' → PostS c F W fr D Hf' (f (a, ρ')) → Q' b H') : tvG c W dnS e σ H Q' := by
  refine ⟨F, ρ, Hf, r, ?_⟩
  cases h : e ρ with
  | stuck => rw [h] at p; exact p
  | ok a =>
    obtain ⟨a, ρ'⟩ := a
    rw [h] at p
    intro b H' Hf' r' s' d
    exact k a ρ' b H' Hf' r' s' d (PostS.mono s' p)
  | exc n ρ' => rw [h] at p; exact fun H' Hf' C r' s' m' => p σ H' Hf' C r' s' m'
theorem stepSF {c : Ct} {F : Fr} {ρ : Rho} {σ : St} {H Hf : Hp} {D : Ends} {Q' : VK} {e : Ev} {f : NV.D × Rho → ResS} (r : R c F ρ σ H Hf) (p : PostS c F W fr D Hf ((e ρ).bind f))
    (k : ∀ d ρ' a H' Hf', R c F ρ' σ H' Hf' → Same Hf Hf' → Own c Hf' H' d a → F.H0 a = none → (∀ i, ¬ OwnAt ρ' σ i a) → F.G a = none → PostS c F W fr D Hf' (f (d, ρ')) → Q' (.ref a) H') : tvF c W e σ H Q' := by
  refine ⟨F, ρ, Hf, r, ?_⟩
  cases h : e ρ with
  | stuck => rw [h] at p; exact p
  | ok a =>
    obtain ⟨d, ρ'⟩ := a
    rw [h] at p
    intro a H' Hf' r' s' w h0 hu hg
    exact k d ρ' a H' Hf' r' s' w h0 hu hg (PostS.mono s' p)
  | exc n ρ' => rw [h] at p; exact fun H' Hf' C r' s' m' => p σ H' Hf' C r' s' m'
theorem ss_nil : SndB X W fr n [] [] := ⟨PSs.mono pss_nil fun D σ H ⟨F, ρ, Hf, r, p⟩ => p σ H Hf r (Same.refl _)⟩
theorem seq_wish {D : Ends} {σ : St} {H : Hp} {c : Ct} (h : tvS c W fr (evSs n (m :: ms)) D σ H) : tSeq (tvS c W fr (evS n m)) (tvS c W fr (evSs n ms)) D σ H := by
  obtain ⟨F, ρ, Hf, r, p⟩ := h
  have p : PostS c F W fr D Hf ((evS n m ρ).bind fun r => match r.1 with
    | .nx => evSs n ms r.2
    | .ret v => .ok (.ret v, r.2)) := p
  refine ⟨F, ρ, Hf, r, ?_⟩
  cases q : evS n m ρ with
  | stuck => rw [q] at p; exact p
  | exc _ _ => rw [q] at p; exact p
  | ok x =>
    obtain ⟨f, ρ'⟩ := x
    rw [q] at p
    cases f with
    | nx => exact fun σ' H' Hf' r' s' => ⟨F, ρ', Hf', r', PostS.mono s' p⟩
    | ret d => exact p
theorem ss_cons (h : SndS X W fr n st m) (t : SndB X W fr n sts ms) : SndB X W fr n (st :: sts) (m :: ms) := ⟨PSs.mono (pss_cons h.ps t.ps) fun D σ H q => seq_wish q⟩
/-- target = value -/
theorem asg_wish {c : Ct} {D : Ends} {σ : St} {H : Hp} {tg : Tg} {e : ME} (h : tvS c W fr (evS n (.asg tg e)) D σ H) : tAsg (tv c W (ev e)) (gT c tg) D σ H := by
  obtain ⟨F, ρ, Hf, r, p⟩ := h
  refine stepS (dnS := dE c) (f := fun x => match setT tg x.1 x.2 with | some ρ' => .ok (.nx, ρ') | none => .stuck) r p fun d ρ' v H' Hf' r' s' dn p' => ?_
  cases q : setT tg d ρ' with
  | none =>
    have p' : PostS c F W fr D Hf' (match setT tg d ρ' with | some ρ' => .ok (.nx, ρ') | none => .stuck) := p'
    rw [q] at p'; exact p'.elim
  | some ρ2 =>
    have p' : PostS c F W fr D Hf' (match setT tg d ρ' with | some ρ' => .ok (.nx, ρ') | none => .stuck) := p'
    rw [q] at p'
    exact gT_ok r' dn q fun σ2 r2 _ => p' σ2 H' Hf' r2 (Same.refl _)
theorem ss_asg {tgx x : Expr} {tg : Tg} {e : ME} (h : Snd X W x e) (hg : PG X tgx (gT (ctx X) tg)) (hs : swapsWithSole [tgx] x pos.line X.env = pure false) (hw : swappedStores [tgx] x X.env = pure none) (h1 : (assignEach [tgx] X.env).map (·.2) = [assign tgx X.env]) : SndS X W fr n (.Assign [tgx] x pos) (.asg tg e) :=
  ⟨PS.mono (ps_asg h.pe hg hs hw h1) fun D σ H q => asg_wish q⟩
/-- name = a new container, which the name owns -/
theorem asgF_wish {c : Ct} {D : Ends} {σ : St} {H : Hp} {i : Nat} {e : ME} (h : tvS c W fr (evS n (.asgF i e)) D σ H) : tAsg (tvF c W (ev e)) (gName i) D σ H := by
  obtain ⟨F, ρ, Hf, r, p⟩ := h
  have p : PostS c F W fr D Hf (if isFresh e then (ev e ρ).bind fun x => match setE x.2 i (.ow x.1) with
    | some ρ' => .ok (.nx, ρ')
    | none => .stuck else .stuck) := p
  split at p
  · refine stepSF (f := fun x => match setE x.2 i (.ow x.1) with | some ρ' => .ok (.nx, ρ') | none => .stuck) r p fun d ρ' a H' Hf' r' s' w h0 hu hg p' => ?_
    have p' : PostS c F W fr D Hf' (match setE ρ' i (.ow d) with | some ρ' => .ok (.nx, ρ') | none => .stuck) := p'
    cases q : setE ρ' i (.ow d) with
    | none => rw [q] at p'; exact p'.elim
    | some ρ2 =>
      rw [q] at p'
      exact p' _ H' Hf' (r'.setOw q w h0 hu hg) (Same.refl _)
  · exact p.elim
theorem ss_asgF {tgx x : Expr} {i : Nat} {e : ME} (h : SndF X W x e) (hg : PG X tgx (gName i)) (hs : swapsWithSole [tgx] x pos.line X.env = pure false) (hw : swappedStores [tgx] x X.env = pure none) (h1 : (assignEach [tgx] X.env).map (·.2) = [assign tgx X.env]) : SndS X W fr n (.Assign [tgx] x pos) (.asgF i e) :=
  ⟨PS.mono (ps_asg h.pf hg hs hw h1) fun D σ H q => asgF_wish q⟩
/-- a comprehension that goes to a name at once -/
structure SndLc (X : Cx) (W : WX) (st : Stmt) (i : Nat) (e : ME) : Prop where
  ex : ∃ te : TE, PS X st (tAsg te (gName i)) ∧ ∀ σ H Q, tvF (ctx X) W (ev e) σ H Q → te σ H Q
theorem tvF.imp {c : Ct} {e : Ev} {σ : St} {H : Hp} {Q Q' : VK} (h : tvF c W e σ H Q) (k : ∀ v H, Q v H → Q' v H) : tvF c W e σ H Q' := by
  obtain ⟨F, ρ, Hf, r, p⟩ := h
  refine ⟨F, ρ, Hf, r, ?_⟩
  cases q : e ρ with
  | stuck => rw [q] at p; exact p
  | exc _ _ => rw [q] at p; exact p
  | ok x =>
    obtain ⟨d, ρ'⟩ := x
    rw [q] at p
    exact fun a H' Hf' r s w h0 hu hg => k _ _ (p a H' Hf' r s w h0 hu hg)
theorem ss_lcF {i : Nat} {e : ME} (h : SndLc X W st i e) : SndS X W fr n st (.asgF i e) := by
  obtain ⟨te, h1, h2⟩ := h.ex
  exact ⟨PS.mono h1 fun D σ H q => h2 _ _ _ (asgF_wish q)⟩
theorem ss_lc {i : Nat} {e : ME} (h : SndLc X W st i e) : SndS X W fr n st (.asg (.nm i) e) := by
  obtain ⟨te, h1, h2⟩ := h.ex
  exact ⟨PS.mono h1 fun D σ H q => h2 _ _ _ (tvF.of (asg_wish q))⟩
/-- an expression -/
theorem ss_exp {x : Expr} {e : ME} (h : Snd X W x e) (hs : swapsWith x none pos.line X.env = pure false) : SndS X W fr n (.Expr x pos) (.exp e) := by
  refine ⟨PS.mono (ps_expr h.pe hs) fun D σ H ⟨F, ρ, Hf, r, p⟩ => ?_⟩
  exact stepS (dnS := dE (ctx X)) (f := fun x => .ok (.nx, x.2)) r p fun d ρ' v H' Hf' r' s' dn p' => p' σ H' Hf' r' (Same.refl _)
/-- if -/
theorem ss_if {x : Expr} {a b : List Stmt} {e : ME} {ma mb : List MS} (h : Snd X W x e) (ha : SndB X W fr n a ma) (hb : SndB X W fr n b mb) : SndS X W fr n (.If x a b pos) (.ite e ma mb) := by
  refine ⟨PS.mono (ps_if h.pt ha.ps hb.ps) fun D σ H ⟨F, ρ, Hf, r, p⟩ => ?_⟩
  have p : PostS (ctx X) F W fr D Hf ((ev e ρ).bind fun x => match x.1 with
    | .bl true => evSs n ma x.2
    | .bl false => evSs n mb x.2
    | _ => .stuck) := p
  refine ⟨F, ρ, Hf, r, ?_⟩
  show Post (ctx X) F W σ _ _ Hf ((ev e ρ).bind fun x => match x.1 with
  | .bl b => .ok (b, x.2)
  | _ => .stuck)
  cases q : ev e ρ with
  | stuck => rw [q] at p; exact p
  | exc _ _ => rw [q] at p; exact fun H' Hf' C r' s' m' => p σ H' Hf' C r' s' m'
  | ok x =>
    obtain ⟨d, ρ'⟩ := x
    rw [q] at p
    cases d with
    | bl b =>
      intro b' H' Hf' r' s' e'
      have e' : b = b' := e'
      subst e'
      cases b with
      | true =>
        rw [if_pos rfl]
        exact ⟨F, ρ', Hf', r', PostS.mono s' p⟩
      | false =>
        rw [if_neg (by simp)]
        exact ⟨F, ρ', Hf', r', PostS.mono s' p⟩
    | _ => exact p.elim
/-- return -/
theorem ss_ret {x : Expr} {e : ME} (h : Snd X W x e) : SndS X W false n (.Return (some x) pos) (.ret e) := by
  refine ⟨PS.mono (ps_ret h.pe) fun D σ H ⟨F, ρ, Hf, r, p⟩ => ?_⟩
  exact stepS (dnS := dE (ctx X)) (f := fun x => .ok (.ret x.1, x.2)) r p fun d ρ' v H' Hf' r' s' dn p' => p' σ v H' Hf' r' (Same.refl _) (by rw [if_neg (by simp)]; exact dn)
theorem ss_retN : SndS X W false n (.Return none pos) .retN := by
  refine ⟨PS.mono ps_retN fun D σ H ⟨F, ρ, Hf, r, p⟩ => ?_⟩
  exact p σ .non H Hf r (Same.refl _) (by rw [if_neg (by simp)]; rfl)
theorem ss_retF {x : Expr} {e : ME} (h : SndF X W x e) (he : ∀ i, e ≠ .var i) : SndS X W true n (.Return (some x) pos) (.retF e) := by
  refine ⟨PS.mono (ps_ret h.pf) fun D σ H ⟨F, ρ, Hf, r, p⟩ => ?_⟩
  have p : PostS (ctx X) F W true D Hf (if isFresh e then (ev e ρ).bind fun x => .ok (.ret x.1, x.2) else .stuck) := by
    cases e <;> first | exact p | exact absurd rfl (he _)
  split at p
  · exact stepSF (f := fun x => .ok (.ret x.1, x.2)) r p fun d ρ' a H' Hf' r' s' w h0 hu hg p' => p' σ _ H' Hf' r' (Same.refl _) (by rw [if_pos rfl]; exact ⟨a, rfl, w, h0⟩)
  · exact p.elim
theorem ss_retV {x : Expr} {i : Nat} (h : Snd X W x (.var i)) : SndS X W true n (.Return (some x) pos) (.retF (.var i)) := by
  refine ⟨PS.mono (ps_ret h.pp) fun D σ H ⟨F, ρ, Hf, r, p⟩ => ?_⟩
  have p : PostS (ctx X) F W true D Hf (match ρ[i]? with
      | some (.ow d) => .ok (.ret d, ρ.set i .un)
      | _ => .stuck) := p
  cases q : ρ[i]? with
  | none => rw [q] at p; exact p.elim
  | some en =>
    rw [q] at p
    cases en with
    | ow d =>
      refine ⟨F, ρ, Hf, r, ?_⟩
      have e1 : pre (.var i) (ev (.var i)) ρ = .ok (none, ρ) := by
        show (match peek ρ i with | some _ => Out.ok (none, ρ) | none => Out.stuck) = _
        unfold peek
        rw [q]
      rw [e1]
      intro v H' Hf' r' s' hv
      have hv : σ[i]? = some (some v) := hv
      obtain ⟨a, w1, w2⟩ := r'.own i _ d q rfl
      rw [hv] at w1
      cases w1
      have h0 := r'.ow i d a q hv
      have hs : setE ρ i .un = some (ρ.set i .un) := by
        unfold setE
        rw [q]
      exact p (σ.set i none) _ H' Hf' (r'.setUn hs) s' (by rw [if_pos rfl]; exact ⟨a, rfl, w2, h0⟩)
    | _ => exact p.elim
/-- loops -/
theorem for_wish {c : Ct} {D : Ends} {σ : St} {H : Hp} {tg : Tg} {k : IK} {args : List ME} {body : List MS} (h : tvS c W fr (evS n (.for tg k args body)) D σ H) : tFor (iX c W k args) (gT c tg) (tvS c W fr (evSs n body)) D σ H := by
  obtain ⟨F, ρ, Hf, r, p⟩ := h
  have p : PostS c F W fr D Hf ((pres args ρ).bind fun x => match (finL args x.1 x.2).bind (iterD k) with
    | none => .stuck
    | some items => unlockO x.2 args (forLoop (evSs n body) tg items (lockE args x.2))) := p
  refine ⟨F, ρ, Hf, r, ?_⟩
  cases q : pres args ρ with
  | stuck => rw [q] at p; exact p.elim
  | exc n ρ' => rw [q] at p; exact fun H' Hf' C r' s' m' => p σ H' Hf' C r' s' m'
  | ok x =>
    obtain ⟨os, ρ1⟩ := x
    rw [q] at p
    have p : PostS c F W fr D Hf (match (finL args os ρ1).bind (iterD k) with
      | none => .stuck
      | some items => unlockO ρ1 args (forLoop (evSs n body) tg items (lockE args ρ1))) := p
    cases q2 : (finL args os ρ1).bind (iterD k) with
    | none => rw [q2] at p; exact p.elim
    | some items =>
      rw [q2] at p
      have p : PostS c F W fr D Hf (unlockO ρ1 args (forLoop (evSs n body) tg items (lockE args ρ1))) := p
      refine ⟨items, q2, fun H1 Hf1 J r1 s1 it => ?_⟩
      refine ⟨fun i mm σ' H' => mm = items.length - i ∧ i ≤ items.length ∧ ∃ ρi Hfi, R c (F.lock args ρ1 σ) ρi σ' H' Hfi ∧ Same Hf1 Hfi ∧ forLoop (evSs n body) tg (items.drop i) ρi = forLoop (evSs n body) tg items (lockE args ρ1),
        ⟨items.length, by simp, Nat.zero_le _, _, Hf1, r1.lock args, Same.refl _, rfl⟩, ?_⟩
      rintro i mm σ' Hi ⟨rfl, hi, ρi, Hfi, ri, si, ei⟩
      have iti := it _ ρi σ' Hi Hfi ri si (fun j a d h1 h2 => .inr ⟨d, rfl, h1, h2⟩) i
      by_cases hlt : i < items.length
      · refine .inr ⟨(iti.1 items[i] (List.getElem?_eq_getElem hlt)).1, ?_⟩
        have hdrop : items.drop i = items[i] :: items.drop (i + 1) := List.drop_eq_getElem_cons hlt
        rw [hdrop] at ei
        refine ⟨fun σ' H' => ∃ ρi Hfi, R c (F.lock args ρ1 σ) ρi σ' H' Hfi ∧ Same Hf1 Hfi ∧ forLoop (evSs n body) tg (items.drop (i + 1)) ρi = forLoop (evSs n body) tg items (lockE args ρ1),
          fun σ2 H2 n2 => ⟨items.length - (i + 1), by omega, rfl, hlt, n2⟩, fun x H2 y => ?_⟩
        obtain ⟨Hf2, r2, s2, d2⟩ := (iti.1 items[i] (List.getElem?_eq_getElem hlt)).2 x H2 y
        have ei : (match setT tg items[i] ρi with
          | none => Out.stuck
          | some ρ1 => (evSs n body ρ1).bind fun r => match r.1 with
            | .nx => forLoop (evSs n body) tg (items.drop (i + 1)) r.2
            | .ret v => .ok (.ret v, r.2)) = forLoop (evSs n body) tg items (lockE args ρ1) := ei
        cases c3 : setT tg items[i] ρi with
        | none =>
          rw [c3] at ei
          rw [← ei] at p
          exact p.elim
        | some ρ3 =>
          rw [c3] at ei
          have ei : ((evSs n body ρ3).bind fun r => match r.1 with
            | .nx => forLoop (evSs n body) tg (items.drop (i + 1)) r.2
            | .ret v => .ok (.ret v, r.2)) = forLoop (evSs n body) tg items (lockE args ρ1) := ei
          refine gT_ok r2 d2 c3 fun σ2 r3 _ => ⟨_, ρ3, Hf2, r3, ?_⟩
          cases c4 : evSs n body ρ3 with
          | stuck =>
            rw [c4] at ei
            rw [← ei] at p
            exact p.elim
          | exc nm ρ4 =>
            rw [c4] at ei
            rw [← ei] at p
            intro σ4 H4 Hf4 C r4 s4 m4
            exact p σ4 H4 Hf4 C (r1.unlock r4) (s1.trans (si.trans (s2.trans s4))) m4
          | ok z =>
            obtain ⟨f, ρ4⟩ := z
            rw [c4] at ei
            cases f with
            | nx => exact fun σ4 H4 Hf4 r4 s4 => ⟨ρ4, Hf4, r4, si.trans (s2.trans s4), ei⟩
            | ret d =>
              have ei : (Out.ok (.ret d, ρ4) : ResS) = forLoop (evSs n body) tg items (lockE args ρ1) := ei
              rw [← ei] at p
              intro σ4 v H4 Hf4 r4 s4 d4
              exact p σ4 v H4 Hf4 (r1.unlock r4) (s1.trans (si.trans (s2.trans s4))) d4
      · have hil : i = items.length := by omega
        subst hil
        refine .inl ⟨iti.2 (Nat.le_refl _), ?_⟩
        rw [List.drop_length] at ei
        have ei : (Out.ok (.nx, ρi) : ResS) = forLoop (evSs n body) tg items (lockE args ρ1) := ei
        rw [← ei] at p
        exact p σ' Hi Hfi (r1.unlock ri) (s1.trans si)
theorem ss_for {tgx iter : Expr} {tg : Tg} {k : IK} {args : List ME} {b : List Stmt} {mb : List MS} (hp : PassesOwn (model X.prog X.w) X.A X.env X.xe) (hc : X.calm = true) (hi : PI X tgx iter (iX (ctx X) W k args)) (hg : PG X tgx (gT (ctx X) tg)) (hb : SndB X W fr n b mb)
    (hs : ∀ x, foldedSetIterable iter X.env x = pure x) : SndS X W fr n (.For tgx iter b [] pos) (.for tg k args mb) :=
  ⟨PS.mono (ps_for hp hc hi hg hb.ps hs) fun D σ H q => for_wish q⟩
theorem ss_while {x : Expr} {e : ME} {b : List Stmt} {mb : List MS} (hp : PassesOwn (model X.prog X.w) X.A X.env X.xe) (h : Snd X W x e) (hb : SndB X W fr n b mb) : SndS X W fr n (.While x b [] pos) (.whl e mb) := by
  refine ⟨PS.mono (ps_while hp h.pt hb.ps) fun D σ H ⟨F, ρ, Hf, r, p⟩ => ?_⟩
  have p : PostS (ctx X) F W fr D Hf (whileLoop (ev e) (evSs n mb) n ρ) := p
  refine ⟨fun mm σ H => ∃ ρi Hfi, R (ctx X) F ρi σ H Hfi ∧ PostS (ctx X) F W fr D Hfi (whileLoop (ev e) (evSs n mb) mm ρi), ⟨n, ρ, Hf, r, p⟩, ?_⟩
  rintro mm σ1 H1 ⟨ρi, Hfi, ri, pi⟩
  cases mm with
  | zero => exact pi.elim
  | succ mm =>
    have pi : PostS (ctx X) F W fr D Hfi ((ev e ρi).bind fun x => match x.1 with
      | .bl true => (evSs n mb x.2).bind fun r => match r.1 with
        | .nx => whileLoop (ev e) (evSs n mb) mm r.2
        | .ret v => .ok (.ret v, r.2)
      | .bl false => .ok (.nx, x.2)
      | _ => .stuck) := pi
    refine ⟨F, ρi, Hfi, ri, ?_⟩
    show Post (ctx X) F W σ1 _ _ Hfi ((ev e ρi).bind fun x => match x.1 with
    | .bl b => .ok (b, x.2)
    | _ => .stuck)
    cases q : ev e ρi with
    | stuck => rw [q] at pi; exact pi
    | exc _ _ => rw [q] at pi; exact fun H' Hf' C r' s' m' => pi σ1 H' Hf' C r' s' m'
    | ok x =>
      obtain ⟨d, ρ'⟩ := x
      rw [q] at pi
      cases d with
      | bl b =>
        intro b' H' Hf' r' s' e'
        have e' : b = b' := e'
        subst e'
        cases b with
        | true =>
          rw [if_pos rfl]
          have pi : PostS (ctx X) F W fr D Hfi ((evSs n mb ρ').bind fun r => match r.1 with
            | .nx => whileLoop (ev e) (evSs n mb) mm r.2
            | .ret v => .ok (.ret v, r.2)) := pi
          refine ⟨_, fun σ2 H2 n2 => ⟨mm, Nat.lt_succ_self _, n2⟩, F, ρ', Hf', r', ?_⟩
          cases q2 : evSs n mb ρ' with
          | stuck => rw [q2] at pi; exact pi
          | exc _ _ => rw [q2] at pi; exact fun σ2 H2 Hf2 C r2 s2 m2 => pi σ2 H2 Hf2 C r2 (s'.trans s2) m2
          | ok z =>
            obtain ⟨f, ρ4⟩ := z
            rw [q2] at pi
            cases f with
            | nx => exact fun σ4 H4 Hf4 r4 s4 => ⟨ρ4, Hf4, r4, PostS.mono (s'.trans s4) pi⟩
            | ret d => exact fun σ4 v H4 Hf4 r4 s4 d4 => pi σ4 v H4 Hf4 r4 (s'.trans s4) d4
        | false =>
          rw [if_neg (by simp)]
          exact pi σ1 H' Hf' r' s'
      | _ => exact pi.elim
end
end NV

/-! NV.N: defs and their calls. -/
namespace NV
open PySem PySem.Spec PyProof.Rows L2

/-! ### what a def promises -/
def ArgsOk (c : Ct) (Hf H : Hp) : List PK → List D → List V → Prop
  | [], ds, vs => ds = [] ∧ vs = []
  | k :: ks, ds, vs => ∃ d ds' v vs', ds = d :: ds' ∧ vs = v :: vs' ∧ (match k with
    | .im => Den c Hf d v
    | _ => ∃ a, v = .ref a ∧ Own c Hf H d a) ∧ ArgsOk c Hf H ks ds' vs'
def OutsOk (c : Ct) (Hf H : Hp) : List PK → List D → List V → Prop
  | [], os, vs => os = [] ∧ vs = []
  | .io :: ks, os, vs => ∃ d os' v vs', os = d :: os' ∧ vs = v :: vs' ∧ (∃ a, v = .ref a ∧ Own c Hf H d a) ∧ OutsOk c Hf H ks os' vs'
  | _ :: ks, os, vs => ∃ v vs', vs = v :: vs' ∧ OutsOk c Hf H ks os vs'
def MuOf (ks : List PK) (vs : List V) (a : Addr) : Prop := ∃ i : Nat, ks[i]? = some PK.io ∧ vs[i]? = some (V.ref a)
def DistOk (ks : List PK) (vs : List V) : Prop := ∀ (i j : Nat) (a : Addr) (k k' : PK), ks[i]? = some k → k ≠ PK.im → ks[j]? = some k' → k' ≠ PK.im → vs[i]? = some (V.ref a) → vs[j]? = some (V.ref a) → i = j
structure Aft (Mu : Addr → Prop) (H Hf H' Hf' : Hp) : Prop where
  same : Same Hf Hf'
  sub : Same Hf' H'
  live : ∀ a o, H a = some o → ∃ o', H' a = some o'
  keep : ∀ a o, H a = some o → ¬ Mu a → H' a = some o
  out : ∀ a o, H a = some o → Hf a = none → Hf' a = none
def spF (c : Ct) (f : FnE) : Sp := fun vs H Q E => ∃ Hf ds, Same Hf H ∧ ArgsOk c Hf H f.ks ds vs ∧ DistOk f.ks vs ∧ match f.F ds with
  | .stuck => False
  | .ok (d, outs) => ∀ v H' Hf', Aft (MuOf f.ks vs) H Hf H' Hf' → OutsOk c Hf' H' f.ks outs vs → (if f.fresh then ∃ a, v = .ref a ∧ Own c Hf' H' d a ∧ H a = none else Den c Hf' d v) → Q v H'
  | .exc n _ => ∀ H' Hf' C, Aft (MuOf f.ks vs) H Hf H' Hf' → c.mg (Str.ofString n) = some (.ref C) → E (.ref C) none H'

theorem ArgsOk.len {c : Ct} {Hf H : Hp} : ∀ {ks : List PK} {ds : List D} {vs : List V}, ArgsOk c Hf H ks ds vs → ds.length = ks.length ∧ vs.length = ks.length
  | [], ds, vs, h => by
    obtain ⟨rfl, rfl⟩ := h
    exact ⟨rfl, rfl⟩
  | k :: ks, ds, vs, h => by
    obtain ⟨d, ds', v, vs', rfl, rfl, _, h⟩ := h
    have := ArgsOk.len h
    simp [this.1, this.2]
theorem ArgsOk.get {c : Ct} {Hf H : Hp} : ∀ {ks : List PK} {ds : List D} {vs : List V} {i : Nat} {k : PK}, ArgsOk c Hf H ks ds vs → ks[i]? = some k → ∃ d v, ds[i]? = some d ∧ vs[i]? = some v ∧ match k with
    | .im => Den c Hf d v
    | _ => ∃ a, v = .ref a ∧ Own c Hf H d a
  | [], ds, vs, i, k, h, e => by simp at e
  | k0 :: ks, ds, vs, 0, k, h, e => by
    obtain ⟨d, ds', v, vs', rfl, rfl, h1, h⟩ := h
    cases e
    exact ⟨d, v, rfl, rfl, h1⟩
  | k0 :: ks, ds, vs, i + 1, k, h, e => by
    obtain ⟨d, ds', v, vs', rfl, rfl, h1, h⟩ := h
    exact ArgsOk.get (ks := ks) (i := i) h (by simpa using e)

/-! ### a def's body -/
def entOf : PK → D → Ent
  | .im, d => .im d
  | .io, d => .io d
  | .br, d => .br d
def rho0 (ks : List PK) (ds : List D) (nN : Nat) : Rho := List.zipWith entOf ks ds ++ List.replicate (nN - ks.length) .un
def ioOuts : List PK → Rho → List D
  | .io :: ks, .io d :: ρ => d :: ioOuts ks ρ
  | _ :: ks, _ :: ρ => ioOuts ks ρ
  | _, _ => []
def runF (ks : List PK) (nN : Nat) (fr : Bool) (n : Nat) (ms : List MS) (ds : List D) : Out Unit (D × List D) := match evSs n ms (rho0 ks ds nN) with
  | .stuck => .stuck
  | .exc c _ => .exc c ()
  | .ok (.nx, ρ) => if fr then .stuck else .ok (.non, ioOuts ks ρ)
  | .ok (.ret d, ρ) => .ok (d, ioOuts ks ρ)
theorem rho0_len {ks : List PK} {ds : List D} {nN : Nat} (h : ds.length = ks.length) (hn : ks.length ≤ nN) : (rho0 ks ds nN).length = nN := by
  unfold rho0
  rw [List.length_append, List.length_zipWith, List.length_replicate]
  omega
theorem rho0_at {ks : List PK} {ds : List D} {nN i : Nat} {e : Ent} (hl : ds.length = ks.length) (h : (rho0 ks ds nN)[i]? = some e) : e = .un ∨ ∃ k d, ks[i]? = some k ∧ ds[i]? = some d ∧ e = entOf k d := by
  unfold rho0 at h
  by_cases hi : i < (List.zipWith entOf ks ds).length
  · rw [List.getElem?_append_left hi, List.getElem?_zipWith] at h
    cases q : ks[i]? with
    | none => rw [q] at h; simp at h
    | some k =>
      cases q2 : ds[i]? with
      | none => rw [q, q2] at h; simp at h
      | some d =>
        rw [q, q2] at h
        simp at h
        exact .inr ⟨k, d, rfl, rfl, h.symm⟩
  · rw [List.getElem?_append_right (by omega), List.getElem?_replicate] at h
    split at h
    · cases h; exact .inl rfl
    · cases h
theorem rho0_get {ks : List PK} {ds : List D} {nN i : Nat} {k : PK} {d : D} (h1 : ks[i]? = some k) (h2 : ds[i]? = some d) : (rho0 ks ds nN)[i]? = some (entOf k d) := by
  unfold rho0
  have h1' := lt_of_get h1
  have h2' := lt_of_get h2
  rw [List.getElem?_append_left (by rw [List.length_zipWith]; omega), List.getElem?_zipWith, h1, h2]
theorem start_get {N : List Str} {vs : List V} {i : Nat} {v : V} (h : vs[i]? = some v) : (L2.start N vs)[i]? = some (some v) := by
  unfold L2.start
  rw [List.getElem?_append_left (by rw [List.length_map]; exact lt_of_get h), List.getElem?_map, h]
  rfl
theorem start_at {N : List Str} {vs : List V} {i : Nat} {v : V} (h : (L2.start N vs)[i]? = some (some v)) : vs[i]? = some v := by
  unfold L2.start at h
  by_cases hi : i < vs.length
  · rw [List.getElem?_append_left (by simpa using hi), List.getElem?_map] at h
    cases e : vs[i]? with
    | none => rw [e] at h; cases h
    | some a => rw [e] at h; cases h; rfl
  · rw [List.getElem?_append_right (by simpa using hi), List.getElem?_replicate] at h
    split at h <;> cases h
def frOf (ks : List PK) (ds : List D) (vs : List V) (H Hf : Hp) : Fr where
  H0 := H
  F0 := Hf
  Mu := MuOf ks vs
  L := fun i a o => vs[i]? = some (.ref a) ∧ ((ks[i]? = some .io ∧ o = none) ∨ (ks[i]? = some .br ∧ ∃ d, ds[i]? = some d ∧ o = some d))
  G := fun _ => none
theorem r_start {c : Ct} {N : List Str} {ks : List PK} {ds : List D} {vs : List V} {H Hf : Hp} (s : Same Hf H) (ha : ArgsOk c Hf H ks ds vs) (hd : DistOk ks vs) (hn : ks.length ≤ N.length) : R c (frOf ks ds vs H Hf) (rho0 ks ds N.length) (L2.start N vs) H Hf := by
  obtain ⟨l1, l2⟩ := ha.len
  have oa : ∀ i a, OwnAt (rho0 ks ds N.length) (L2.start N vs) i a → ∃ k, ks[i]? = some k ∧ k ≠ .im ∧ vs[i]? = some (.ref a) := fun i a ⟨e, d, h1, h2, h3⟩ => by
    rcases rho0_at l1 h1 with rfl | ⟨k, d', q1, q2, rfl⟩
    · cases h2
    · refine ⟨k, q1, fun z => ?_, start_at h3⟩
      subst z
      cases h2
  refine ⟨?_, s, Same.refl _, fun a o h => ⟨o, h⟩, fun a o h _ => h, fun a o h h2 => h2, fun i d h => ?_, fun i e d h1 h2 => ?_, fun i j a h1 h2 => ?_, fun i d a h1 h2 => ?_, fun i d a h1 h2 => ?_, fun i a o h => ?_, fun i d h => ?_, fun b u q => by cases q⟩
  · rw [rho0_len l1 hn]
    unfold L2.start
    rw [List.length_append, List.length_map, List.length_replicate]
    omega
  · rcases rho0_at l1 h with z | ⟨k, d', q1, q2, z⟩
    · cases z
    · obtain ⟨d2, v, w1, w2, w3⟩ := ha.get q1
      rw [q2] at w1
      cases w1
      cases k with
      | im => cases z; exact ⟨v, start_get w2, w3⟩
      | io => cases z
      | br => cases z
  · rcases rho0_at l1 h1 with z | ⟨k, d', q1, q2, z⟩
    · subst z; cases h2
    · obtain ⟨d2, v, w1, w2, w3⟩ := ha.get q1
      rw [q2] at w1
      cases w1
      subst z
      cases k with
      | im => cases h2
      | io =>
        cases h2
        obtain ⟨a, rfl, w4⟩ := w3
        exact ⟨a, start_get w2, w4⟩
      | br =>
        cases h2
        obtain ⟨a, rfl, w4⟩ := w3
        exact ⟨a, start_get w2, w4⟩
  · obtain ⟨k, q1, q2, q3⟩ := oa i a h1
    obtain ⟨k', q4, q5, q6⟩ := oa j a h2
    exact hd i j a k k' q1 q2 q4 q5 q3 q6
  · rcases rho0_at l1 h1 with z | ⟨k, d', q1, q2, z⟩
    · cases z
    · cases k <;> cases z
  · rcases rho0_at l1 h1 with z | ⟨k, d', q1, q2, z⟩
    · cases z
    · cases k with
      | im => cases z
      | io => exact ⟨i, q1, start_at h2⟩
      | br => cases z
  · obtain ⟨h1, h⟩ := h
    refine ⟨start_get h1, ?_⟩
    rcases h with ⟨h, rfl⟩ | ⟨h, d, h2, rfl⟩
    · obtain ⟨d, v, w1, w2, _⟩ := ha.get h
      exact ⟨_, rho0_get h w1, d, rfl⟩
    · exact ⟨_, rho0_get h h2, rfl⟩
  · rcases rho0_at l1 h with z | ⟨k, d', q1, q2, z⟩
    · cases z
    · cases k with
      | im => cases z
      | io => cases z
      | br =>
        cases z
        obtain ⟨d2, v, w1, w2, a, rfl, _⟩ := ha.get q1
        exact ⟨a, w2, .inr ⟨q1, _, q2, rfl⟩⟩
theorem outs_none {c : Ct} {Hf H : Hp} : ∀ {ks : List PK} {vs : List V}, vs.length = ks.length → (∀ i : Nat, ks[i]? ≠ some PK.io) → OutsOk c Hf H ks [] vs
  | [], [], _, _ => ⟨rfl, rfl⟩
  | [], _ :: _, h, _ => by simp at h
  | _ :: _, [], h, _ => by simp at h
  | k :: ks, v :: vs, hl, h => by
    have ih := outs_none (c := c) (Hf := Hf) (H := H) (ks := ks) (vs := vs) (by simpa using hl) fun i => by simpa using h (i + 1)
    cases k with
    | im => exact ⟨v, vs, rfl, ih⟩
    | br => exact ⟨v, vs, rfl, ih⟩
    | io => exact absurd rfl (h 0)
theorem outs_of {c : Ct} {Hf H : Hp} : ∀ {ks : List PK} {vs : List V} {ρ : Rho}, vs.length = ks.length → (∀ i : Nat, ks[i]? = some PK.io → ∃ a d, vs[i]? = some (V.ref a) ∧ ρ[i]? = some (Ent.io d) ∧ Own c Hf H d a) → OutsOk c Hf H ks (ioOuts ks ρ) vs
  | [], [], ρ, _, _ => ⟨by cases ρ <;> rfl, rfl⟩
  | [], _ :: _, _, h, _ => by simp at h
  | _ :: _, [], _, h, _ => by simp at h
  | k :: ks, v :: vs, [], hl, h => by
    have e : ioOuts (k :: ks) [] = [] := by cases k <;> rfl
    rw [e]
    refine outs_none hl fun i hi => ?_
    obtain ⟨a, d, _, h2, _⟩ := h i hi
    simp at h2
  | k :: ks, v :: vs, e :: ρ, hl, h => by
    have ih := outs_of (c := c) (Hf := Hf) (H := H) (ks := ks) (vs := vs) (ρ := ρ) (by simpa using hl) (fun i hi => by
      have := h (i + 1) (by simpa using hi)
      simpa using this)
    cases k with
    | im => exact ⟨v, vs, rfl, by cases e <;> exact ih⟩
    | br => exact ⟨v, vs, rfl, by cases e <;> exact ih⟩
    | io =>
      obtain ⟨a, d, h1, h2, h3⟩ := h 0 rfl
      have h1 : v = .ref a := by simpa using h1
      have h2 : e = .io d := by simpa using h2
      subst h1 h2
      exact ⟨d, _, _, vs, rfl, rfl, ⟨a, rfl, h3⟩, ih⟩
section
variable {P : Program} {w : World} {K : PySem.W.Frag} {mg : Str → Option Value} {base : Heap}
/-- the context of a def's body -/
abbrev cxF (P : Program) (w : World) (K : PySem.W.Frag) (mg : Str → Option Value) (base : Heap) (N : List Str) (qual : Str) (sc : Scope) (f : Addr) (cd : Value) (A : Around) (outer : List Env) (s : Shared) (H : Hp) (E : XK) : Cx := cxOf (L2N.CX P w) P w K mg base N qual sc f cd A outer s H E
theorem takesF {N : List Str} {qual : Str} {sc : Scope} {f : Addr} {cd : Value} {A : Around} {outer : List Env} {s : Shared} {H : Hp} {E : XK} : L2N.Takes (cxF P w K mg base N qual sc f cd A outer s H E) (fun cls d _ H => E cls d H) :=
  L2N.takes_of (E₁ := fun e' s'' => L2N.CX P w outer H s E e' s'') rfl rfl rfl rfl
/-- the end of a body -/
theorem body_wish {N ps : List Str} {n : Nat} {fe : FnE} {ms : List MS} {E : XK} {vs : List V} {H : Hp} {Q : VK} (hpl : ps.length ≤ N.length) (hps : fe.ks.length = ps.length)
    (hF : ∀ ds, ds.length = ps.length → fe.F ds = .stuck ∨ runF fe.ks N.length fe.fresh n ms ds = fe.F ds) (h : spF ⟨P, w, K, mg⟩ fe vs H Q E) :
    tvS ⟨P, w, K, mg⟩ (fun cls d _ H => E cls d H) fe.fresh (evSs n ms) { nx := fun _ H' => Q .non H', rt := Q } (L2.start N vs) H := by
    obtain ⟨Hf, ds, sf, ha, hd, q⟩ := h
    have r0 := r_start (N := N) sf ha hd (by omega)
    obtain ⟨l1, l2⟩ := ha.len
    refine ⟨_, _, Hf, r0, ?_⟩
    have hf := hF ds (by omega)
    rcases hf with hf | hf
    · rw [hf] at q; exact q.elim
    · rw [← hf] at q
      have aft : ∀ {ρ' : Rho} {σ' : St} {H' Hf' : Hp}, R ⟨P, w, K, mg⟩ (frOf fe.ks ds vs H Hf) ρ' σ' H' Hf' → Aft (MuOf fe.ks vs) H Hf H' Hf' := fun r => ⟨r.subf, r.sub, r.live, r.keep, r.out⟩
      have outs : ∀ {ρ' : Rho} {σ' : St} {H' Hf' : Hp}, R ⟨P, w, K, mg⟩ (frOf fe.ks ds vs H Hf) ρ' σ' H' Hf' → OutsOk ⟨P, w, K, mg⟩ Hf' H' fe.ks (ioOuts fe.ks ρ') vs := fun {ρ' σ' H' Hf'} r => by
        refine outs_of l2 fun i hi => ?_
        obtain ⟨d, v, w1, w2, a, rfl, _⟩ := ha.get hi
        obtain ⟨y1, e, y2, y3⟩ := r.pin i a none ⟨w2, .inl ⟨hi, rfl⟩⟩
        obtain ⟨d', rfl⟩ := y3
        obtain ⟨b, y4, y5⟩ := r.own i _ d' y2 rfl
        rw [y1] at y4
        cases y4
        exact ⟨a, d', w2, y2, y5⟩
      unfold runF at q
      cases z : evSs n ms (rho0 fe.ks ds N.length) with
      | stuck => rw [z] at q; exact q.elim
      | exc nm ρ' =>
        rw [z] at q
        exact fun σ' H' Hf' C r' s' m' => q H' Hf' C (aft r') m'
      | ok y =>
        obtain ⟨fl, ρ'⟩ := y
        rw [z] at q
        cases fl with
        | nx =>
          intro σ' H' Hf' r' s'
          have q : match (if fe.fresh then Out.stuck else Out.ok (D.non, ioOuts fe.ks ρ') : Out Unit (D × List D)) with
            | .stuck => False
            | .ok (d, outs) => ∀ v H' Hf', Aft (MuOf fe.ks vs) H Hf H' Hf' → OutsOk ⟨P, w, K, mg⟩ Hf' H' fe.ks outs vs → (if fe.fresh then ∃ a, v = .ref a ∧ Own ⟨P, w, K, mg⟩ Hf' H' d a ∧ H a = none else Den ⟨P, w, K, mg⟩ Hf' d v) → Q v H'
            | .exc n _ => ∀ H' Hf' C, Aft (MuOf fe.ks vs) H Hf H' Hf' → mg (Str.ofString n) = some (.ref C) → E (.ref C) none H' := q
          cases hfr : fe.fresh with
          | true => rw [hfr, if_pos rfl] at q; exact q.elim
          | false =>
            rw [hfr, if_neg (by simp)] at q
            exact q .non H' Hf' (aft r') (outs r') (by rw [if_neg (by simp)]; rfl)
        | ret d =>
          intro σ' v H' Hf' r' s' hv
          exact q v H' Hf' (aft r') (outs r') hv
/-- THE RULE: a def by its body -/
theorem fn_ok {x qual : Str} {st : Stmt} {f : Addr} {fd : FuncData} {N ps : List Str} {k n : Nat} {fe : FnE} {ms : List MS} (F : L2.Fun K x qual st f fd) (S : FnScope N ps (defScope st)) (hps : fe.ks.length = ps.length)
    (hF : ∀ ds, ds.length = ps.length → fe.F ds = .stuck ∨ runF fe.ks N.length fe.fresh n ms ds = fe.F ds)
    (hb : ∀ (cdv : Value) (A : Around) (outer : List Env) (s : Shared) (H : Hp) (E : XK), Room k (A.deeper (envOfC qual (defScope st) s.heap.objs.size f cdv)) →
      SndB (cxF P w K mg base N qual (defScope st) f cdv A outer s H E) (fun cls d _ H => E cls d H) fe.fresh n (defBody st) ms) : FnOk P w K mg base (L2N.CX P w) (k + 1) f fd ps (spF ⟨P, w, K, mg⟩ fe) := by
  obtain ⟨oc, od, kV, doc, pm, an, cdv, ct, osl, rfl, lk, hcd⟩ := F.ex
  refine fn_of lk hcd S (fun vs H Q E h => ?_) fun A outer s H vs Q E hr h => ⟨_, (hb cdv A outer s H E hr).ps, ?_⟩
  · obtain ⟨Hf, ds, _, ha, _⟩ := h
    rw [ha.len.2, hps]
  · have hpl : ps.length ≤ N.length := by have := congrArg List.length S.pre; rw [List.length_take] at this; omega
    exact body_wish hpl hps hF h
end
end NV

/-! NV.O: calls of defs. -/
namespace NV
open PySem PySem.Spec PyProof.Rows L2

section
variable {c : Ct} {F : Fr} {ρ ρ' : Rho} {σ : St} {H Hf H' Hf' : Hp} {Mu : Addr → Prop}
theorem R.call (r : R c F ρ σ H Hf) (aft : Aft Mu H Hf H' Hf') (hl : ρ'.length = ρ.length)
    (h : ∀ j : Nat, (ρ'[j]? = ρ[j]? ∧ ∀ a, OwnAt ρ σ j a → ¬ Mu a) ∨ ∃ d d' a, σ[j]? = some (some (V.ref a)) ∧ Own c Hf' H' d' a ∧ ((ρ[j]? = some (Ent.ow d) ∧ ρ'[j]? = some (Ent.ow d')) ∨ (ρ[j]? = some (Ent.io d) ∧ ρ'[j]? = some (Ent.io d'))))
    (hM : ∀ a, Mu a → ∃ (j : Nat) (d : D), (ρ[j]? = some (Ent.ow d) ∨ ρ[j]? = some (Ent.io d)) ∧ σ[j]? = some (some (V.ref a))) : R c F ρ' σ H' Hf' := by
  have oa : ∀ j a, OwnAt ρ' σ j a → OwnAt ρ σ j a := fun j a ⟨e, d, h1, h2, h3⟩ => by
    rcases h j with ⟨q, _⟩ | ⟨d0, d1, b, q1, q2, q3⟩
    · rw [q] at h1; exact ⟨e, d, h1, h2, h3⟩
    · rcases q3 with ⟨q3, _⟩ | ⟨q3, _⟩
      · exact ⟨_, _, q3, rfl, h3⟩
      · exact ⟨_, _, q3, rfl, h3⟩
  have mo : ∀ a, Mu a → ∃ j, OwnAt ρ σ j a := fun a hm => by
    obtain ⟨j, d, q1, q2⟩ := hM a hm
    rcases q1 with q1 | q1
    · exact ⟨j, _, _, q1, rfl, q2⟩
    · exact ⟨j, _, _, q1, rfl, q2⟩
  refine ⟨hl.trans r.len, aft.sub, r.subf.trans aft.same, fun a o e => ?_, fun a o e m => ?_, fun a o e e2 => ?_, fun i d e => ?_, fun i e d h1 h2 => ?_, fun i j a h1 h2 => r.dist i j a (oa _ _ h1) (oa _ _ h2), fun i d a h1 h2 => ?_, fun i d a h1 h2 => ?_, fun i a o e => ?_, fun i d e => ?_, fun b u q => ?_⟩
  · obtain ⟨o', q⟩ := r.live a o e
    exact aft.live _ _ q
  · refine aft.keep _ _ (r.keep _ _ e m) fun hm => ?_
    obtain ⟨j, d, q1, q2⟩ := hM a hm
    rcases q1 with q1 | q1
    · have := r.ow j d a q1 q2
      rw [this] at e
      cases e
    · exact m (r.io j d a q1 q2)
  · obtain ⟨o', q⟩ := r.live a o e
    exact aft.out _ _ q (r.out _ _ e e2)
  · rcases h i with ⟨q, _⟩ | ⟨d0, d1, b, q1, q2, q3⟩
    · rw [q] at e
      obtain ⟨v, w1, w2⟩ := r.im i d e
      exact ⟨v, w1, Den.mono aft.same _ _ w2⟩
    · rcases q3 with ⟨_, q3⟩ | ⟨_, q3⟩ <;> (rw [q3] at e; cases e)
  · rcases h i with ⟨q, qm⟩ | ⟨d0, d1, b, q1, q2, q3⟩
    · rw [q] at h1
      obtain ⟨a, w1, w2⟩ := r.own i e d h1 h2
      obtain ⟨o, w3⟩ := w2.there
      exact ⟨a, w1, w2.keep aft.same (aft.out _ _ w3 w2.1) fun u hu => aft.keep _ _ hu (qm a ⟨e, d, h1, h2, w1⟩)⟩
    · rcases q3 with ⟨_, q3⟩ | ⟨_, q3⟩
      · rw [q3] at h1; cases h1; cases h2; exact ⟨b, q1, q2⟩
      · rw [q3] at h1; cases h1; cases h2; exact ⟨b, q1, q2⟩
  · rcases h i with ⟨q, qm⟩ | ⟨d0, d1, b, q1, q2, q3⟩
    · rw [q] at h1; exact r.ow i d a h1 h2
    · rcases q3 with ⟨q3, q4⟩ | ⟨q3, q4⟩
      · exact r.ow i d0 a q3 h2
      · rw [q4] at h1; cases h1
  · rcases h i with ⟨q, qm⟩ | ⟨d0, d1, b, q1, q2, q3⟩
    · rw [q] at h1; exact r.io i d a h1 h2
    · rcases q3 with ⟨q3, q4⟩ | ⟨q3, q4⟩
      · rw [q4] at h1; cases h1
      · exact r.io i d0 a q3 h2
  · obtain ⟨w1, en, w2, w3⟩ := r.pin i a o e
    refine ⟨w1, ?_⟩
    rcases h i with ⟨q, qm⟩ | ⟨d0, d1, b, q1, q2, q3⟩
    · exact ⟨en, by rw [q]; exact w2, w3⟩
    · cases o with
      | none =>
        rcases q3 with ⟨q3, q4⟩ | ⟨q3, q4⟩
        · obtain ⟨d', rfl⟩ := w3
          rw [w2] at q3; cases q3
        · exact ⟨_, q4, _, rfl⟩
      | some d =>
        have w3 : en = .br d := w3
        subst w3
        rcases q3 with ⟨q3, q4⟩ | ⟨q3, q4⟩ <;> (rw [w2] at q3; cases q3)
  · rcases h i with ⟨q, qm⟩ | ⟨d0, d1, b, q1, q2, q3⟩
    · rw [q] at e; exact r.brL i d e
    · rcases q3 with ⟨_, q3⟩ | ⟨_, q3⟩ <;> (rw [q3] at e; cases e)
  · obtain ⟨q1, q2, q3⟩ := r.grd b u q
    refine ⟨aft.keep _ _ q1 fun hm => ?_, aft.out _ _ q1 q2, fun i w => q3 i (oa _ _ w)⟩
    obtain ⟨j, w⟩ := mo b hm
    exact q3 j w
end

/-! ### the arguments -/
def dA (c : Ct) : List PK → List ME → St → List (Option D) → List V → Hp → Prop
  | [], [], _, os, vs, _ => os = [] ∧ vs = []
  | k :: ks, m :: ms, σ, os, vs, Hf => ∃ o os' v vs', os = o :: os' ∧ vs = v :: vs' ∧ (match k with
    | .im => ∃ d, o = some d ∧ Den c Hf d v
    | _ => ∃ i, m = .var i ∧ σ[i]? = some (some v)) ∧ dA c ks ms σ os' vs' Hf
  | _, _, _, _, _, _ => False
structure SndA (X : Cx) (W : WX) (ks : List PK) (es : List Expr) (ms : List ME) : Prop where
  pa : PA X es (tvG (ctx X) W (dA (ctx X) ks ms) (evArgs ks ms))
theorem dA.mono {c : Ct} {σ : St} {Hf Hf' : Hp} (s : Same Hf Hf') : ∀ {ks : List PK} {ms : List ME} {os : List (Option D)} {vs : List V}, dA c ks ms σ os vs Hf → dA c ks ms σ os vs Hf'
  | [], [], os, vs, h => h
  | k :: ks, m :: ms, os, vs, h => by
    obtain ⟨o, os', v, vs', h1, h2, h3, h4⟩ := h
    refine ⟨o, os', v, vs', h1, h2, ?_, dA.mono s h4⟩
    cases k with
    | im =>
      obtain ⟨d, e, dn⟩ := h3
      exact ⟨d, e, Den.mono s _ _ dn⟩
    | io => exact h3
    | br => exact h3
  | [], _ :: _, _, _, h => h.elim
  | _ :: _, [], _, _, h => h.elim
section
variable {X : Cx} {W : WX} {pos : Pos}
theorem sa_nil : SndA X W [] [] [] := ⟨PA.mono pa_nil fun σ H Q ⟨F, ρ, Hf, r, p⟩ => p [] H Hf r (Same.refl _) ⟨rfl, rfl⟩⟩
/-- one argument -/
def dA1 (c : Ct) (k : PK) (m : ME) : St → Option D → V → Hp → Prop := fun σ o v Hf => match k with
    | .im => ∃ d, o = some d ∧ Den c Hf d v
    | _ => ∃ i, m = .var i ∧ σ[i]? = some (some v)
structure SndA1 (X : Cx) (W : WX) (k : PK) (e : Expr) (m : ME) : Prop where
  pe : PE X e (tvG (ctx X) W (dA1 (ctx X) k m) (evArg k m (ev m)))
theorem sa_im {e : Expr} {m : ME} (h : Snd X W e m) : SndA1 X W .im e m := by
  refine ⟨PE.mono h.pe fun σ H Q ⟨F, ρ, Hf, r, p⟩ => ?_⟩
  have p : Post (ctx X) F W σ (dA1 (ctx X) .im m σ) Q Hf ((ev m ρ).bind fun r => .ok (some r.1, r.2)) := p
  exact step r p fun d ρ' v H' Hf' r' s' dn p' => p' v H' Hf' r' (Same.refl _) ⟨d, rfl, dn⟩
theorem sa_ref {k : PK} {e : Expr} {i : Nat} (hk : k ≠ .im) (h : Snd X W e (.var i)) : SndA1 X W k e (.var i) := by
  refine ⟨PE.mono h.pp fun σ H Q ⟨F, ρ, Hf, r, p⟩ => ?_⟩
  have e1 : evArg k (.var i) (ev (.var i)) ρ = pre (.var i) (ev (.var i)) ρ := by
    cases k with
    | im => exact absurd rfl hk
    | _ => rfl
  rw [e1] at p
  refine ⟨F, ρ, Hf, r, ?_⟩
  cases q : pre (.var i) (ev (.var i)) ρ with
  | stuck => rw [q] at p; exact p
  | exc _ _ => rw [q] at p; exact p
  | ok x =>
    obtain ⟨o, ρ'⟩ := x
    rw [q] at p
    refine fun v H' Hf' r' s' dn => p v H' Hf' r' s' ?_
    cases k with
    | im => exact absurd rfl hk
    | _ => exact ⟨i, rfl, dn⟩
theorem sa_cons {k : PK} {ks : List PK} {e : Expr} {es : List Expr} {m : ME} {ms : List ME} (h : SndA1 X W k e m) (t : SndA X W ks es ms)
    (hs : starEach (e :: es) X.env = (false, eval e X.env) :: starEach es X.env) : SndA X W (k :: ks) (e :: es) (m :: ms) := by
  refine ⟨PA.mono (pa_cons h.pe t.pa hs) fun σ H Q ⟨F, ρ, Hf, r, p⟩ => ?_⟩
  have p : Post (ctx X) F W σ (dA (ctx X) (k :: ks) (m :: ms) σ) Q Hf ((evArg k m (ev m) ρ).bind fun x => (evArgs ks ms x.2).bind fun y => .ok (x.1 :: y.1, y.2)) := p
  refine step r p fun o ρ' v H' Hf' r' s' dn p' => ?_
  refine step r' p' fun os ρ2 vs H2 Hf2 r2 s2 dn2 p2 => ?_
  refine p2 _ H2 Hf2 r2 (Same.refl _) ⟨o, os, v, vs, rfl, rfl, ?_, dn2⟩
  cases k with
  | im =>
    obtain ⟨d, e, w⟩ := dn
    exact ⟨d, e, Den.mono s2 _ _ w⟩
  | io => exact dn
  | br => exact dn
end
/-! ### what the arguments are -/
def ioIn (i : Nat) : List PK → List ME → Prop
  | .io :: ks, .var j :: ms => i = j ∨ ioIn i ks ms
  | _ :: ks, _ :: ms => ioIn i ks ms
  | _, _ => False
section
variable {c : Ct} {F : Fr} {ρ ρ' : Rho} {σ : St} {H Hf H' Hf' : Hp}
theorem args_ok (r : R c F ρ σ H Hf) : ∀ {ks : List PK} {ms : List ME} {os : List (Option D)} {vs : List V} {ds : List D}, dA c ks ms σ os vs Hf → finArgs ks ms os ρ = some ds → ArgsOk c Hf H ks ds vs
  | [], [], os, vs, ds, h, e => by
    obtain ⟨rfl, rfl⟩ := h
    cases e
    exact ⟨rfl, rfl⟩
  | k :: ks, m :: ms, os, vs, ds, h, e => by
    obtain ⟨o, os', v, vs', rfl, rfl, h3, h4⟩ := h
    unfold finArgs at e
    cases q : finArg k m o ρ with
    | none => rw [q] at e; cases e
    | some d =>
      cases q2 : finArgs ks ms os' ρ with
      | none => rw [q, q2] at e; cases e
      | some ds' =>
        rw [q, q2] at e
        cases e
        refine ⟨d, ds', v, vs', rfl, rfl, ?_, args_ok r h4 q2⟩
        cases k with
        | im =>
          obtain ⟨d', rfl, w⟩ := h3
          cases q
          exact w
        | io =>
          obtain ⟨i, rfl, w⟩ := h3
          have q : (match ρ[i]? with | some (.ow d) => some d | some (.io d) => some d | _ => none) = some d := q
          split at q
          · rename_i d' z
            cases q
            obtain ⟨a, w1, w2⟩ := r.own i _ _ z rfl
            rw [w] at w1
            cases w1
            exact ⟨a, rfl, w2⟩
          · rename_i d' z
            cases q
            obtain ⟨a, w1, w2⟩ := r.own i _ _ z rfl
            rw [w] at w1
            cases w1
            exact ⟨a, rfl, w2⟩
          · cases q
        | br =>
          obtain ⟨i, rfl, w⟩ := h3
          have q : (match ρ[i]? with | some (.ow d) => some d | some (.io d) => some d | some (.br d) => some d | _ => none) = some d := q
          split at q
          · rename_i d' z
            cases q
            obtain ⟨a, w1, w2⟩ := r.own i _ _ z rfl
            rw [w] at w1
            cases w1
            exact ⟨a, rfl, w2⟩
          · rename_i d' z
            cases q
            obtain ⟨a, w1, w2⟩ := r.own i _ _ z rfl
            rw [w] at w1
            cases w1
            exact ⟨a, rfl, w2⟩
          · rename_i d' z
            cases q
            obtain ⟨a, w1, w2⟩ := r.own i _ _ z rfl
            rw [w] at w1
            cases w1
            exact ⟨a, rfl, w2⟩
          · cases q
  | [], _ :: _, _, _, _, h, _ => h.elim
  | _ :: _, [], _, _, _, h, _ => h.elim
/-- the held arguments are own names -/
theorem args_at (r : R c F ρ σ H Hf) : ∀ {ks : List PK} {ms : List ME} {os : List (Option D)} {vs : List V} {ds : List D} {j : Nat} {k : PK} {a : Addr}, dA c ks ms σ os vs Hf → finArgs ks ms os ρ = some ds → ks[j]? = some k → k ≠ PK.im → vs[j]? = some (V.ref a) →
    ∃ i, ms[j]? = some (ME.var i) ∧ OwnAt ρ σ i a ∧ (k = .io → ioIn i ks ms ∧ ∃ d, ρ[i]? = some (Ent.ow d) ∨ ρ[i]? = some (Ent.io d))
  | [], [], os, vs, ds, j, k, a, h, e, h1, h2, h3 => by simp at h1
  | k0 :: ks, m :: ms, os, vs, ds, j, k, a, h, e, h1, h2, h3 => by
    obtain ⟨o, os', v, vs', rfl, rfl, h4, h5⟩ := h
    unfold finArgs at e
    cases q : finArg k0 m o ρ with
    | none => rw [q] at e; cases e
    | some d =>
      cases q2 : finArgs ks ms os' ρ with
      | none => rw [q, q2] at e; cases e
      | some ds' =>
        cases j with
        | succ j =>
          obtain ⟨i, w1, w2, w3⟩ := args_at r (j := j) h5 q2 (by simpa using h1) h2 (by simpa using h3)
          refine ⟨i, by simpa using w1, w2, fun z => ⟨?_, (w3 z).2⟩⟩
          cases k0 with
          | io =>
            cases m with
            | var i' => exact .inr (w3 z).1
            | _ => exact (w3 z).1
          | im => exact (w3 z).1
          | br => exact (w3 z).1
        | zero =>
          have h1 : k0 = k := by simpa using h1
          have h3 : v = .ref a := by simpa using h3
          subst h1 h3
          cases k0 with
          | im => exact absurd rfl h2
          | io =>
            obtain ⟨i, rfl, w⟩ := h4
            have q : (match ρ[i]? with | some (.ow d) => some d | some (.io d) => some d | _ => none) = some d := q
            refine ⟨i, rfl, ?_, fun _ => ⟨.inl rfl, ?_⟩⟩
            · split at q
              · rename_i d' z; exact ⟨_, _, z, rfl, w⟩
              · rename_i d' z; exact ⟨_, _, z, rfl, w⟩
              · cases q
            · split at q
              · rename_i d' z; exact ⟨_, .inl z⟩
              · rename_i d' z; exact ⟨_, .inr z⟩
              · cases q
          | br =>
            obtain ⟨i, rfl, w⟩ := h4
            have q : (match ρ[i]? with | some (.ow d) => some d | some (.io d) => some d | some (.br d) => some d | _ => none) = some d := q
            refine ⟨i, rfl, ?_, fun z => by cases z⟩
            split at q
            · rename_i d' z; exact ⟨_, _, z, rfl, w⟩
            · rename_i d' z; exact ⟨_, _, z, rfl, w⟩
            · rename_i d' z; exact ⟨_, _, z, rfl, w⟩
            · cases q
  | [], _ :: _, _, _, _, _, _, _, h, _, _, _, _ => h.elim
  | _ :: _, [], _, _, _, _, _, _, h, _, _, _, _ => h.elim
theorem refIn_at : ∀ {ks : List PK} {ms : List ME} {j i : Nat} {k : PK}, ks[j]? = some k → k ≠ PK.im → ms[j]? = some (ME.var i) → (∀ (j : Nat) (k : PK), ks[j]? = some k → k ≠ PK.im → ∀ m : ME, ms[j]? = some m → ∃ i, m = ME.var i) → refIn i ks ms = true
  | [], ms, j, i, k, h, _, _, _ => by simp at h
  | k0 :: ks, [], j, i, k, _, _, h, _ => by simp at h
  | k0 :: ks, m :: ms, j, i, k, h1, h2, h3, h4 => by
    have h4' : ∀ (j : Nat) (k : PK), ks[j]? = some k → k ≠ PK.im → ∀ m, ms[j]? = some m → ∃ i, m = ME.var i := fun j k a b m' c => h4 (j + 1) k (by simpa using a) b m' (by simpa using c)
    cases j with
    | zero =>
      have h1 : k0 = k := by simpa using h1
      have h3 : m = .var i := by simpa using h3
      subst h1 h3
      cases k0 with
      | im => exact absurd rfl h2
      | io => simp [refIn]
      | br => simp [refIn]
    | succ j =>
      have ih := refIn_at (ks := ks) (ms := ms) (j := j) (i := i) (k := k) (by simpa using h1) h2 (by simpa using h3) h4'
      cases k0 with
      | im => exact ih
      | io =>
        obtain ⟨i', rfl⟩ := h4 0 _ rfl (by simp) m rfl
        show (decide (i = i') || refIn i ks ms) = true
        rw [ih, Bool.or_true]
      | br =>
        obtain ⟨i', rfl⟩ := h4 0 _ rfl (by simp) m rfl
        show (decide (i = i') || refIn i ks ms) = true
        rw [ih, Bool.or_true]
theorem refNd_ne : ∀ {ks : List PK} {ms : List ME} {j j' i : Nat} {k k' : PK}, refNd ks ms = true → (∀ (j : Nat) (k : PK), ks[j]? = some k → k ≠ PK.im → ∀ m : ME, ms[j]? = some m → ∃ i, m = ME.var i) → ks[j]? = some k → k ≠ PK.im → ms[j]? = some (ME.var i) → ks[j']? = some k' → k' ≠ PK.im → ms[j']? = some (ME.var i) → j = j'
  | [], ms, j, j', i, k, k', _, _, h, _, _, _, _, _ => by simp at h
  | k0 :: ks, [], j, j', i, k, k', _, _, _, _, h, _, _, _ => by simp at h
  | k0 :: ks, m :: ms, j, j', i, k, k', hn, hv, h1, h2, h3, h4, h5, h6 => by
    have hv' : ∀ (j : Nat) (k : PK), ks[j]? = some k → k ≠ PK.im → ∀ m, ms[j]? = some m → ∃ i, m = ME.var i := fun j k a b m' c => hv (j + 1) k (by simpa using a) b m' (by simpa using c)
    have hn' : refNd ks ms = true := by
      cases k0 with
      | im => exact hn
      | io =>
        obtain ⟨i', rfl⟩ := hv 0 _ rfl (by simp) m rfl
        exact (Bool.and_eq_true _ _ ▸ (show (!refIn i' ks ms && refNd ks ms) = true from hn)).2
      | br =>
        obtain ⟨i', rfl⟩ := hv 0 _ rfl (by simp) m rfl
        exact (Bool.and_eq_true _ _ ▸ (show (!refIn i' ks ms && refNd ks ms) = true from hn)).2
    have hd : ∀ i', k0 ≠ .im → m = .var i' → refIn i' ks ms = false := fun i' hk hm => by
      subst hm
      cases k0 with
      | im => exact absurd rfl hk
      | io =>
        have := (Bool.and_eq_true _ _ ▸ (show (!refIn i' ks ms && refNd ks ms) = true from hn)).1
        simpa using this
      | br =>
        have := (Bool.and_eq_true _ _ ▸ (show (!refIn i' ks ms && refNd ks ms) = true from hn)).1
        simpa using this
    cases j with
    | zero =>
      cases j' with
      | zero => rfl
      | succ j' =>
        have h1 : k0 = k := by simpa using h1
        have h3 : m = .var i := by simpa using h3
        subst h1
        have e1 := hd i h2 h3
        have e2 := refIn_at (ks := ks) (ms := ms) (j := j') (by simpa using h4) h5 (by simpa using h6) hv'
        rw [e1] at e2
        cases e2
    | succ j =>
      cases j' with
      | zero =>
        have h4 : k0 = k' := by simpa using h4
        have h6 : m = .var i := by simpa using h6
        subst h4
        have e1 := hd i h5 h6
        have e2 := refIn_at (ks := ks) (ms := ms) (j := j) (by simpa using h1) h2 (by simpa using h3) hv'
        rw [e1] at e2
        cases e2
      | succ j' => rw [refNd_ne (ks := ks) (ms := ms) (j := j) (j' := j') hn' hv' (by simpa using h1) h2 (by simpa using h3) (by simpa using h4) h5 (by simpa using h6)]
theorem dA_vars : ∀ {ks : List PK} {ms : List ME} {os : List (Option D)} {vs : List V}, dA c ks ms σ os vs Hf → ∀ (j : Nat) (k : PK), ks[j]? = some k → k ≠ PK.im → ∀ m : ME, ms[j]? = some m → ∃ i, m = ME.var i
  | [], [], os, vs, h, j, k, h1, _, _, _ => by simp at h1
  | k0 :: ks, m0 :: ms, os, vs, h, j, k, h1, h2, m, h3 => by
    obtain ⟨o, os', v, vs', rfl, rfl, h4, h5⟩ := h
    cases j with
    | zero =>
      have h1 : k0 = k := by simpa using h1
      have h3 : m0 = m := by simpa using h3
      subst h1 h3
      cases k0 with
      | im => exact absurd rfl h2
      | io => obtain ⟨i, e, _⟩ := h4; exact ⟨i, e⟩
      | br => obtain ⟨i, e, _⟩ := h4; exact ⟨i, e⟩
    | succ j => exact dA_vars (j := j) h5 k (by simpa using h1) h2 m (by simpa using h3)
  | [], _ :: _, _, _, h, _, _, _, _, _, _ => h.elim
  | _ :: _, [], _, _, h, _, _, _, _, _, _ => h.elim
theorem ioIn_ref {i : Nat} : ∀ {ks : List PK} {ms : List ME}, ioIn i ks ms → (∀ (j : Nat) (k : PK), ks[j]? = some k → k ≠ PK.im → ∀ m : ME, ms[j]? = some m → ∃ i, m = ME.var i) → refIn i ks ms = true
  | [], ms, h, _ => by cases ms <;> exact h.elim
  | k :: ks, [], h, _ => by cases k <;> exact h.elim
  | k :: ks, m :: ms, h, hv => by
    have hv' : ∀ (j : Nat) (k : PK), ks[j]? = some k → k ≠ PK.im → ∀ m, ms[j]? = some m → ∃ i, m = ME.var i := fun j k a b m' c => hv (j + 1) k (by simpa using a) b m' (by simpa using c)
    cases k with
    | im => exact ioIn_ref (ks := ks) (ms := ms) h hv'
    | io =>
      obtain ⟨i', rfl⟩ := hv 0 _ rfl (by simp) m rfl
      show (decide (i = i') || refIn i ks ms) = true
      rcases (show i = i' ∨ ioIn i ks ms from h) with rfl | h
      · simp
      · rw [ioIn_ref h hv', Bool.or_true]
    | br =>
      obtain ⟨i', rfl⟩ := hv 0 _ rfl (by simp) m rfl
      show (decide (i = i') || refIn i ks ms) = true
      rw [ioIn_ref (ks := ks) (ms := ms) h hv', Bool.or_true]
/-- what came back -/
theorem outs_at : ∀ {ks : List PK} {ms : List ME} {os : List (Option D)} {vs : List V} {outs : List D} {ρ ρ' : Rho}, dA c ks ms σ os vs Hf → refNd ks ms = true → OutsOk c Hf' H' ks outs vs → outArgs ks ms outs ρ = some ρ' → ρ'.length = ρ.length ∧
    ∀ j : Nat, (ρ'[j]? = ρ[j]? ∧ ¬ ioIn j ks ms) ∨ (ioIn j ks ms ∧ ∃ d d' a, σ[j]? = some (some (V.ref a)) ∧ Own c Hf' H' d' a ∧ ((ρ[j]? = some (Ent.ow d) ∧ ρ'[j]? = some (Ent.ow d')) ∨ (ρ[j]? = some (Ent.io d) ∧ ρ'[j]? = some (Ent.io d'))))
  | [], [], os, vs, outs, ρ, ρ', h, _, ho, e => by
    obtain ⟨rfl, _⟩ := ho
    cases e
    exact ⟨rfl, fun j => .inl ⟨rfl, fun z => z⟩⟩
  | k :: ks, m :: ms, os, vs, outs, ρ, ρ', h, hn, ho, e => by
    have hvv := dA_vars h
    obtain ⟨o, os', v, vs', rfl, rfl, h4, h5⟩ := h
    cases k with
    | im =>
      obtain ⟨v', vs2, e2, ho⟩ := ho
      cases e2
      have e : outArgs ks ms outs ρ = some ρ' := by
        unfold outArgs at e
        exact e
      exact outs_at (ks := ks) (ms := ms) h5 hn ho e
    | br =>
      obtain ⟨v', vs2, e2, ho⟩ := ho
      cases e2
      obtain ⟨i, rfl, w⟩ := h4
      have e : outArgs ks ms outs ρ = some ρ' := by
        unfold outArgs at e
        exact e
      have hn : (!refIn i ks ms && refNd ks ms) = true := hn
      exact outs_at (ks := ks) (ms := ms) h5 (Bool.and_eq_true _ _ ▸ hn).2 ho e
    | io =>
      obtain ⟨d', os2, v', vs2, rfl, e2, ⟨a, rfl, wo⟩, ho⟩ := ho
      cases e2
      obtain ⟨i, rfl, w⟩ := h4
      have hn : (!refIn i ks ms && refNd ks ms) = true := hn
      obtain ⟨hn1, hn2⟩ := (Bool.and_eq_true _ _ ▸ hn)
      have hni : ¬ ioIn i ks ms := fun z => by
        have := ioIn_ref z (dA_vars h5)
        rw [this] at hn1
        cases hn1
      have e : (match ρ[i]? with
        | some (.ow _) => outArgs ks ms os2 (ρ.set i (.ow d'))
        | some (.io _) => outArgs ks ms os2 (ρ.set i (.io d'))
        | _ => none) = some ρ' := e
      have go : ∀ (en en' : Ent) (d0 : D), ρ[i]? = some en → ((en = .ow d0 ∧ en' = .ow d') ∨ (en = .io d0 ∧ en' = .io d')) → outArgs ks ms os2 (ρ.set i en') = some ρ' → ρ'.length = ρ.length ∧
          ∀ j : Nat, (ρ'[j]? = ρ[j]? ∧ ¬ ioIn j (.io :: ks) (.var i :: ms)) ∨ (ioIn j (.io :: ks) (.var i :: ms) ∧ ∃ d d' a, σ[j]? = some (some (V.ref a)) ∧ Own c Hf' H' d' a ∧ ((ρ[j]? = some (Ent.ow d) ∧ ρ'[j]? = some (Ent.ow d')) ∨ (ρ[j]? = some (Ent.io d) ∧ ρ'[j]? = some (Ent.io d')))) := fun en en' d0 q hk e => by
        obtain ⟨hl, hj⟩ := outs_at (ks := ks) (ms := ms) h5 hn2 ho e
        refine ⟨by rw [hl, List.length_set], fun j => ?_⟩
        by_cases hij : i = j
        · subst hij
          rcases hj i with ⟨z1, z2⟩ | ⟨z1, _⟩
          · rw [List.getElem?_set_self (lt_of_get q)] at z1
            refine .inr ⟨.inl rfl, d0, d', a, w, wo, ?_⟩
            rcases hk with ⟨rfl, rfl⟩ | ⟨rfl, rfl⟩
            · exact .inl ⟨q, z1⟩
            · exact .inr ⟨q, z1⟩
          · exact absurd z1 hni
        · rcases hj j with ⟨z1, z2⟩ | ⟨z1, z2⟩
          · rw [List.getElem?_set_ne hij] at z1
            exact .inl ⟨z1, fun z => (show j = i ∨ ioIn j ks ms from z).elim (fun z => hij z.symm) z2⟩
          · rw [List.getElem?_set_ne hij] at z2
            exact .inr ⟨.inr z1, z2⟩
      split at e
      · rename_i d0 q
        exact go _ _ d0 q (.inl ⟨rfl, rfl⟩) e
      · rename_i d0 q
        exact go _ _ d0 q (.inr ⟨rfl, rfl⟩) e
      · cases e
  | [], _ :: _, _, _, _, _, _, h, _, _, _ => h.elim
  | _ :: _, [], _, _, _, _, _, h, _, _, _ => h.elim
end

/-! ### the call -/
/-- a def that the module holds -/
structure FnAt (X : Cx) (x : Str) (f : FnE) : Prop where
  ex : ∃ (k : Nat) (fa : Addr) (fd : FuncData) (ps : List Str), X.mg x = some (.ref fa) ∧ FnOk X.prog X.w X.K X.mg X.base (L2N.CX X.prog X.w) k fa fd ps (spF (ctx X) f) ∧ PySem.W.keepIn X.K (.ref fa) = true ∧ Binds X.K fd ps [] ∧ Room k X.A
section
variable {X : Cx} {W : WX} {pos p : Pos} {x : Str} {f : FnE} {e : Expr} {es : List Expr} {ms : List ME}
theorem call_go {c : Ct} {F : Fr} {ρ ρ' : Rho} {σ : St} {H Hf H' Hf' : Hp} {os : List (Option D)} {vs : List V} {ds outs : List D} (r : R c F ρ σ H Hf) (hd : dA c f.ks ms σ os vs Hf) (hn : refNd f.ks ms = true) (hf : finArgs f.ks ms os ρ = some ds)
    (aft : Aft (MuOf f.ks vs) H Hf H' Hf') (ho : OutsOk c Hf' H' f.ks outs vs) (e : outArgs f.ks ms outs ρ = some ρ') : R c F ρ' σ H' Hf' := by
  obtain ⟨hl, hj⟩ := outs_at hd hn ho e
  have mu : ∀ a, MuOf f.ks vs a → ∃ i, OwnAt ρ σ i a ∧ ioIn i f.ks ms ∧ ∃ d, ρ[i]? = some (Ent.ow d) ∨ ρ[i]? = some (Ent.io d) := fun a ⟨i, h1, h2⟩ => by
    obtain ⟨i', w1, w2, w3⟩ := args_at r hd hf h1 (by simp) h2
    exact ⟨i', w2, (w3 rfl).1, (w3 rfl).2⟩
  refine r.call aft hl (fun j => ?_) fun a hm => ?_
  · rcases hj j with ⟨q1, q2⟩ | ⟨_, q2⟩
    · refine .inl ⟨q1, fun a ha hm => ?_⟩
      obtain ⟨i, w1, w2, _⟩ := mu a hm
      have := r.dist i j a w1 ha
      subst this
      exact q2 w2
    · exact .inr q2
  · obtain ⟨i, ⟨_, _, _, _, w1⟩, _, d, w2⟩ := mu a hm
    exact ⟨i, d, w2, w1⟩
theorem call_dist {c : Ct} {F : Fr} {ρ : Rho} {σ : St} {H Hf : Hp} {os : List (Option D)} {vs : List V} {ds : List D} (r : R c F ρ σ H Hf) (hd : dA c f.ks ms σ os vs Hf) (hn : refNd f.ks ms = true) (hf : finArgs f.ks ms os ρ = some ds) : DistOk f.ks vs := fun i j a k k' h1 h2 h3 h4 h5 h6 => by
  obtain ⟨i1, w1, w2, _⟩ := args_at r hd hf h1 h2 h5
  obtain ⟨i2, w3, w4, _⟩ := args_at r hd hf h3 h4 h6
  have := r.dist i1 i2 a w2 w4
  subst this
  exact refNd_ne hn (dA_vars hd) h1 h2 w1 h3 h4 w3
theorem noio {ks : List PK} {vs : List V} (h : ks.contains .io = false) : ∀ a, ¬ MuOf ks vs a := fun a ⟨i, h1, _⟩ => by
  have := List.mem_of_getElem? h1
  simp at h
  exact h this
theorem call_wishF {c : Ct} {σ : St} {H : Hp} {Q : VK} (hfr : f.fresh = true) (h : tvF c W (ev (.call f ms)) σ H Q) : tCallS (spF c f) (L2.WE W) (tvG c W (dA c f.ks ms) (evArgs f.ks ms)) σ H Q := by
  obtain ⟨F, ρ, Hf, r, p⟩ := h
  refine stepF (dnS := dA c f.ks ms) (f := fun x => match if refNd f.ks ms then finArgs f.ks ms x.1 x.2 else none with
    | none => .stuck
    | some ds => match f.F ds with
      | .stuck => .stuck
      | .exc c _ => if f.ks.contains .io then .stuck else .exc c x.2
      | .ok (d, outs) => match outArgs f.ks ms outs x.2 with
        | none => .stuck
        | some ρ' => .ok (d, ρ')) r p fun os ρ1 vs H1 Hf1 r1 s1 d1 p1 => ?_
  dsimp only at p1
  by_cases hn : refNd f.ks ms = true
  · rw [if_pos hn] at p1
    cases q : finArgs f.ks ms os ρ1 with
    | none => rw [q] at p1; exact p1.elim
    | some ds =>
      rw [q] at p1
      dsimp only at p1
      refine ⟨Hf1, ds, r1.sub, args_ok r1 d1 q, call_dist r1 d1 hn q, ?_⟩
      cases q2 : f.F ds with
      | stuck => rw [q2] at p1; exact p1.elim
      | exc n _ =>
        rw [q2] at p1
        dsimp only at p1 ⊢
        cases hio : f.ks.contains .io with
        | true => rw [hio, if_pos rfl] at p1; exact p1.elim
        | false =>
          rw [hio, if_neg (by simp)] at p1
          intro H' Hf' C aft m
          exact p1 H' Hf' C (r1.call aft rfl (fun j => .inl ⟨rfl, fun a _ => noio hio a⟩) (fun a hm => absurd hm (noio hio a))) aft.same m
      | ok y =>
        obtain ⟨d, outs⟩ := y
        rw [q2] at p1
        dsimp only at p1 ⊢
        intro v H' Hf' aft ho hv
        rw [if_pos hfr] at hv
        obtain ⟨a, rfl, wo, hna⟩ := hv
        cases q3 : outArgs f.ks ms outs ρ1 with
        | none => rw [q3] at p1; exact p1.elim
        | some ρ' =>
          rw [q3] at p1
          have r2 := call_go r1 d1 hn q aft ho q3
          refine p1 a H' Hf' r2 aft.same wo (r1.free hna).2 (fun i hi => ?_) ?_
          · obtain ⟨e, d', w1, w2, w3⟩ := hi
            obtain ⟨hl, hj⟩ := outs_at d1 hn ho q3
            have hoa : OwnAt ρ1 σ i a := by
              rcases hj i with ⟨z1, _⟩ | ⟨_, d0, d2, b, z1, _, z2⟩
              · rw [z1] at w1; exact ⟨e, d', w1, w2, w3⟩
              · rcases z2 with ⟨z2, _⟩ | ⟨z2, _⟩
                · exact ⟨_, _, z2, rfl, w3⟩
                · exact ⟨_, _, z2, rfl, w3⟩
            exact r1.own_ne hoa hna rfl
          · cases z : F.G a with
            | none => rfl
            | some u =>
              have := (r1.grd a u z).1
              rw [hna] at this
              cases this
  · rw [if_neg hn] at p1; exact p1.elim
theorem call_wish {c : Ct} {σ : St} {H : Hp} {Q : VK} (hfr : f.fresh = false) (h : tv c W (ev (.call f ms)) σ H Q) : tCallS (spF c f) (L2.WE W) (tvG c W (dA c f.ks ms) (evArgs f.ks ms)) σ H Q := by
  obtain ⟨F, ρ, Hf, r, p⟩ := h
  refine step (dnS := dA c f.ks ms) (f := fun x => match if refNd f.ks ms then finArgs f.ks ms x.1 x.2 else none with
    | none => .stuck
    | some ds => match f.F ds with
      | .stuck => .stuck
      | .exc c _ => if f.ks.contains .io then .stuck else .exc c x.2
      | .ok (d, outs) => match outArgs f.ks ms outs x.2 with
        | none => .stuck
        | some ρ' => .ok (d, ρ')) r p fun os ρ1 vs H1 Hf1 r1 s1 d1 p1 => ?_
  dsimp only at p1
  by_cases hn : refNd f.ks ms = true
  · rw [if_pos hn] at p1
    cases q : finArgs f.ks ms os ρ1 with
    | none => rw [q] at p1; exact p1.elim
    | some ds =>
      rw [q] at p1
      dsimp only at p1
      refine ⟨Hf1, ds, r1.sub, args_ok r1 d1 q, call_dist r1 d1 hn q, ?_⟩
      cases q2 : f.F ds with
      | stuck => rw [q2] at p1; exact p1.elim
      | exc n _ =>
        rw [q2] at p1
        dsimp only at p1 ⊢
        cases hio : f.ks.contains .io with
        | true => rw [hio, if_pos rfl] at p1; exact p1.elim
        | false =>
          rw [hio, if_neg (by simp)] at p1
          intro H' Hf' C aft m
          exact p1 H' Hf' C (r1.call aft rfl (fun j => .inl ⟨rfl, fun a _ => noio hio a⟩) (fun a hm => absurd hm (noio hio a))) aft.same m
      | ok y =>
        obtain ⟨d, outs⟩ := y
        rw [q2] at p1
        dsimp only at p1 ⊢
        intro v H' Hf' aft ho hv
        rw [if_neg (by rw [hfr]; simp)] at hv
        cases q3 : outArgs f.ks ms outs ρ1 with
        | none => rw [q3] at p1; exact p1.elim
        | some ρ' =>
          rw [q3] at p1
          exact p1 v H' Hf' (call_go r1 d1 hn q aft ho q3) aft.same hv
  · rw [if_neg hn] at p1; exact p1.elim
theorem s_callF (hfr : f.fresh = true) (tk : L2N.Takes X W) (F : FnAt X x f) (ha : SndA X W f.ks (e :: es) ms) (hg : Gl X x) (hdb : (x == ("__debug__" : Str)) = false) (he : starEach (e :: es) X.env = (false, eval e X.env) :: starEach es X.env) (hpl : (backTo pos (starEach es X.env)).any (·.1) = false) :
    SndF X W (.Call (.Name x p) (e :: es) [] pos) (.call f ms) := by
  obtain ⟨k, fa, fd, ps, hm, hF, hk, hb, hr⟩ := F.ex
  exact ⟨PE.mono (pe_callS hF hr hg hm hk hb (L2N.passAt tk) ha.pa hdb he hpl) fun σ H Q q => call_wishF hfr q⟩
theorem s_call (hfr : f.fresh = false) (tk : L2N.Takes X W) (F : FnAt X x f) (ha : SndA X W f.ks (e :: es) ms) (hg : Gl X x) (hdb : (x == ("__debug__" : Str)) = false) (he : starEach (e :: es) X.env = (false, eval e X.env) :: starEach es X.env) (hpl : (backTo pos (starEach es X.env)).any (·.1) = false) :
    Snd X W (.Call (.Name x p) (e :: es) [] pos) (.call f ms) := by
  obtain ⟨k, fa, fd, ps, hm, hF, hk, hb, hr⟩ := F.ex
  exact Snd.of (PE.mono (pe_callS hF hr hg hm hk hb (L2N.passAt tk) ha.pa hdb he hpl) fun σ H Q q => call_wish hfr q) (fun i z => nomatch z) (fun _ => rfl)
end
end NV

/-! NV.Q: more words. -/
namespace NV
open PySem PySem.Spec PyProof.Rows L2

theorem PE.or {X : Cx} {e : Expr} {t t' : TE} (h : PE X e t) (h' : PE X e t') : PE X e (fun σ H Q => t σ H Q ∨ t' σ H Q) := ⟨fun pins s σ H Q I q => q.elim (h.run pins s σ H Q I) (h'.run pins s σ H Q I)⟩
section
variable {X : Cx} {W : WX} {e a : Expr} {m : ME} {p p2 q pos : Pos}
/-! ### len(set(..)) -/
def sings (x : Str) : List Str := x.cps.toList.map fun c => (⟨#[c]⟩ : Str)
def tLs (K : PySem.W.Frag) (te : TE) : TE := fun σ H Q => te σ H fun x H1 => (∃ z : Str, x = .str z ∧ z.cps.size ≤ 4000 ∧ Q (.int (metN (sings z))) H1) ∨
  ∃ (l : Addr) (ns : List Int), x = .ref l ∧ SqL K H1 l (ns.map V.int) ∧ ns.length ≤ 4000 ∧ Q (.int (metN ns)) H1
theorem firstMet_met (ns : List Int) : firstMet (fun i => ns.getD i 0) ns.length = ns.foldl metL [] := by
  unfold firstMet
  have e1 : (List.range ns.length).map (fun i => ns.getD i 0) = ns := by
    refine List.ext_getElem? fun i => ?_
    rw [List.getElem?_map]
    by_cases h : i < ns.length
    · rw [List.getElem?_range h]
      simp [List.getElem?_eq_getElem h]
    · rw [List.getElem?_eq_none (by simpa using h), List.getElem?_eq_none (by omega)]
      rfl
  rw [e1]
  have e2 : (step_dedup : List Int → Int → List Int) = metL := by
    funext acc x
    unfold step_dedup metL
    by_cases h : x ∈ acc
    · rw [if_pos h, if_pos (by simpa using h)]
    · rw [if_neg h, if_neg (by simpa using h)]
  rw [e2]
theorem pe_ls {te : TE} (hg : Gl X "len") (hm : X.mg "len" = none) (hg2 : Gl X "set") (hm2 : X.mg "set" = none) (ha : PE X a te) (hc : X.calm = true)
    (na : starEach [a] X.env = (false, eval a X.env) :: starEach [] X.env) : PE X (.Call (.Name "len" p) [.Call (.Name "set" p2) [a] [] q] [] pos) (tLs X.K te) := by
  refine ⟨fun pins s σ H Q I h => ?_⟩
  refine Call_ (ld_blt I hg hm boot_len ?_)
  refine PyProof.Rows.callWith_builtin1 (PyProof.Rows.args_cons ?_ rfl) rfl rfl
  refine Call_ (ld_blt I hg2 hm2 boot_set ?_)
  refine PyProof.Rows.callWith_type1 (PyProof.Rows.args_cons (thn (ha.run pins s σ H _ I h) fun v s1 ⟨x, H1, I1, r1, q1⟩ => PyProof.Rows.args_nil ?_) na) na rfl
  rcases q1 with ⟨z, rfl, hz, q1⟩ | ⟨l, ns, rfl, hq, hl, q1⟩
  · obtain ⟨t, rfl⟩ := r1
    refine call_set_txt (I1.ok.hd hc) (by unfold scanBound; omega) fun h' tk hS hk => ?_
    refine PyProof.Rows.args_nil ?_
    obtain ⟨o, es, ep, t, ho, hex, hd, _, _, _, hf, hn⟩ := hS
    have I2 : Inv X pins σ H1 { s1 with heap := h', toks := tk } := I1.kept fun b o e => hk b o (Heap.lt_size e) e
    have hle : metN (sings z) ≤ 4000 := by
      have := met_le (sings z) []
      unfold metN
      have h2 : (sings z).length = z.cps.size := by simp [sings]
      simp only [List.length_nil] at this
      omega
    have hn' : es.size = metN (sings z) := hn
    exact call_len_set ho hex hd hf (by omega) ⟨.int (metN (sings z)), H1, I2.tok _, ⟨_, by rw [hn']⟩, q1⟩
  · cases r1
    obtain ⟨its, r, pl, hz⟩ := I1.list hq
    have hlen : its.toArray.size = ns.length := by rw [List.size_toArray, ← r.length, List.length_map]
    refine call_set_list (I1.ok.hd hc) pl.isList (by simpa using RZ.intsAre_vals r) (by rw [hlen]; unfold scanBound; omega) fun h' tk hS hk => ?_
    refine PyProof.Rows.args_nil ?_
    rw [hlen, firstMet_met] at hS
    obtain ⟨o, es, ep, t, ho, hex, hd, _, _, _, hf, hn⟩ := hS
    have I2 : Inv X pins σ H1 { s1 with heap := h', toks := tk } := I1.kept fun b o e => hk b o (Heap.lt_size e) e
    have hle : metN ns ≤ 4000 := by
      have := met_le ns []
      unfold metN
      simp only [List.length_nil] at this
      omega
    exact call_len_set ho hex hd hf (by rw [hn]; unfold metN at hle; omega) ⟨.int (metN ns), H1, I2.tok _, ⟨_, by rw [hn]; rfl⟩, q1⟩
theorem metL_map {α β : Type} [DecidableEq α] [DecidableEq β] (f : α → β) (hf : ∀ x y, f x = f y → x = y) (acc : List α) (x : α) : metL (acc.map f) (f x) = (metL acc x).map f := by
  unfold metL
  have e : f x ∈ acc.map f ↔ x ∈ acc := by
    rw [List.mem_map]
    exact ⟨fun ⟨y, h1, h2⟩ => by rw [← hf _ _ h2]; exact h1, fun h => ⟨x, h, rfl⟩⟩
  by_cases h : x ∈ acc
  · rw [if_pos h, if_pos (e.mpr h)]
  · rw [if_neg h, if_neg (fun z => h (e.mp z))]
    simp
theorem met_map {α β : Type} [DecidableEq α] [DecidableEq β] (f : α → β) (hf : ∀ x y, f x = f y → x = y) : ∀ (l acc : List α), (l.map f).foldl metL (acc.map f) = (l.foldl metL acc).map f
  | [], acc => rfl
  | x :: l, acc => by
    rw [List.map_cons, List.foldl_cons, metL_map f hf, met_map f hf l]
    rfl
theorem metN_map {α β : Type} [DecidableEq α] [DecidableEq β] (f : α → β) (hf : ∀ x y, f x = f y → x = y) (l : List α) : metN (l.map f) = metN l := by
  unfold metN
  have := met_map f hf l []
  rw [List.map_nil] at this
  rw [this, List.length_map]
theorem sing_inj (x y : Nat) (h : (⟨#[x]⟩ : Str) = ⟨#[y]⟩) : x = y := by
  have q2 : [x] = [y] := congrArg (fun y : Str => y.cps.toList) h
  exact (List.cons.inj q2).1
theorem allInt_den {c : Ct} {Hf : Hp} : ∀ {l : List D} {vs : List V} {is : List Int}, allInt l = some is → Dens c Hf l vs → vs = is.map V.int
  | [], vs, is, h, d => by
    cases h
    exact d
  | x :: l, vs, is, h, d => by
    obtain ⟨v, vs', rfl, d1, d2⟩ := d
    cases x with
    | int i =>
      have h : (allInt l).map (i :: ·) = some is := h
      cases q : allInt l with
      | none => rw [q] at h; cases h
      | some is' =>
        rw [q] at h
        cases h
        rw [allInt_den q d2]
        cases d1
        rfl
    | _ => cases h
theorem s_lenset (h : Snd X W a m) (hg : Gl X "len") (hm : X.mg "len" = none) (hg2 : Gl X "set") (hm2 : X.mg "set" = none) (hc : X.calm = true)
    (na : starEach [a] X.env = (false, eval a X.env) :: starEach [] X.env) : Snd X W (.Call (.Name "len" p) [.Call (.Name "set" p2) [a] [] q] [] pos) (.b1 .lenset m) := by
  refine Snd.of (PE.mono (pe_ls hg hm hg2 hm2 h.pp hc na) fun σ H Q ⟨F, ρ, Hf, r, p⟩ => ?_) (fun i z => nomatch z) (fun _ => rfl)
  refine step (dnS := dP (ctx X) m) (f := fun x => match fin m x.1 x.2 with | some d => opt (b1D .lenset d) x.2 | none => .stuck) r p fun o ρ' v H' Hf' r' s' dn p' => ?_
  dsimp only at p'
  cases z : fin m o ρ' with
  | none => rw [z] at p'; exact p'.elim
  | some d =>
    rw [z] at p'
    have tp := top_fin r' (Same.refl _) dn z
    cases d with
    | str l =>
      have p' : Post (ctx X) F W σ (dE (ctx X) σ) Q Hf' (opt (if l.length ≤ 4000 then some (.int (metN l)) else none) ρ') := p'
      split at p'
      · rename_i hl
        obtain ⟨rfl, _⟩ := (show Den (ctx X) Hf' (.str l) v from tp)
        refine .inl ⟨_, rfl, by simpa using hl, ?_⟩
        have e : metN (sings ⟨l.toArray⟩) = metN l := by
          unfold sings
          exact metN_map _ sing_inj l
        rw [e]
        exact p' _ H' Hf' r' (Same.refl _) rfl
      · exact p'.elim
    | lst l =>
      have p' : Post (ctx X) F W σ (dE (ctx X) σ) Q Hf' (opt (match allInt l with | some is => if is.length ≤ 4000 then some (.int (metN is)) else none | none => none) ρ') := p'
      cases q1 : allInt l with
      | none => rw [q1] at p'; exact p'.elim
      | some is =>
        rw [q1] at p'
        dsimp only at p'
        split at p'
        · rename_i hl
          obtain ⟨b, vs, rfl, h1, h2⟩ := tp
          have e := allInt_den q1 h2
          subst e
          exact .inr ⟨b, is, rfl, SqL.of h1, hl, p' _ H' Hf' r' (Same.refl _) rfl⟩
        · exact p'.elim
    | _ => exact p'.elim
/-! ### list(..) -/
theorem vals_of_get : ∀ {xs : List V} {us : List Value}, xs.length = us.length → (∀ (i : Nat) (x : V) (u : Value), xs[i]? = some x → us[i]? = some u → RelV x u) → Vals xs us
  | [], [], _, _ => .nil
  | [], _ :: _, h, _ => by simp at h
  | _ :: _, [], h, _ => by simp at h
  | x :: xs, u :: us, h, k => .cons (k 0 x u rfl rfl) (vals_of_get (by simpa using h) fun i y v h1 h2 => k (i + 1) y v (by simpa using h1) (by simpa using h2))
theorem items_sign {x : Str} {acc : Array Value} (h : ItemsOf (SignAt x) acc x.cps.size) : Vals ((sings x).map V.str) acc.toList := by
  refine vals_of_get (by simp [sings, h.1]) fun i y u h1 h2 => ?_
  obtain ⟨c, t, e1, rfl⟩ := h.2 i u (by simpa using h2)
  unfold sings at h1
  rw [List.getElem?_map, List.getElem?_map, Array.getElem?_toList, e1] at h1
  cases h1
  exact ⟨t, rfl⟩
def listD : D → Option D := fun d => match d with | .lst l => some (.lst l) | .tup l => some (.lst l) | .scr l => some (.lst (l.map .int)) | .str l => some (.lst (l.map fun c => .str [c])) | _ => none
theorem sings_den {c : Ct} (H : Hp) : ∀ (l : List Nat), (∀ x ∈ l, x < 0x110000) → Dens c H (l.map fun c => D.str [c]) ((l.map fun c => (⟨#[c]⟩ : Str)).map V.str)
  | [], _ => rfl
  | x :: l, h => ⟨_, _, rfl, ⟨rfl, by show 1 ≤ 16777216; decide, fun y hy => by
      have : y = x := by simpa using hy
      rw [this]
      exact h x List.mem_cons_self⟩, sings_den H l fun y hy => h y (List.mem_cons_of_mem _ hy)⟩
theorem call_listY (hc : X.calm = true) : CallR X (.type "list") (rB1F (ctx X) W listD) := by
  intro pins s σ0 H xs us Q I rv hh
  obtain ⟨F, ρ, σ, Hf, d, x, ex, r, tp, po⟩ := id hh
  cases d with
  | str l =>
    subst ex
    obtain ⟨rfl, g1, g2⟩ := (show Den (ctx X) Hf (.str l) x from tp)
    cases rv with
    | cons rx rr =>
      cases rr
      obtain ⟨t, rfl⟩ := rx
      have hz : l.length ≤ sizeLine := by rw [sizeLine_eq]; exact g1
      refine call_list_str (I.ok.hd hc) _ t (fun h' tk acc c' k hS hacc => ?_) (by simpa using hz)
      have v := items_sign hacc
      have ha : H s.heap.objs.size = none := I.hok.fresh (Nat.le_refl _)
      have J : Inv X pins σ0 (upd H s.heap.objs.size (.lst ((sings ⟨l.toArray⟩).map V.str))) { s with heap := h', toks := tk } := I.laid (t' := tk) k (Nat.le_refl _) ⟨by simpa [sings] using hz, _, _, v, hS⟩
      refine ⟨.ref _, _, J, rfl, ?_⟩
      refine PostF.new r po ha ⟨(r.free ha).1, _, upd_same, ?_⟩
      unfold sings
      exact sings_den _ l g2
  | lst l => exact call_listX pins s σ0 H xs us Q I rv ⟨F, ρ, σ, Hf, .lst l, x, ex, r, tp, po⟩
  | tup l => exact call_listX pins s σ0 H xs us Q I rv ⟨F, ρ, σ, Hf, .tup l, x, ex, r, tp, po⟩
  | scr l => exact call_listX pins s σ0 H xs us Q I rv ⟨F, ρ, σ, Hf, .scr l, x, ex, r, tp, po⟩
  | _ => exact po.elim
theorem s_list (h : SndL X W [a] [m]) (hg : Gl X "list") (hm : X.mg "list" = none) (hc : X.calm = true) (hv : bootBuiltins "list" = some (.type "list")) (he : starEach [a] X.env = (false, eval a X.env) :: starEach [] X.env) :
    SndF X W (.Call (.Name "list" p) [a] [] pos) (.b1 .list m) :=
  ⟨PE.mono (pe_callTy (call_listY hc) hg hm hv h.pps (by decide) (by decide) he) fun σ H Q q => s_b1F (fun d d' z => by cases d <;> exact z) h (fun d z => by cases d <;> first | exact z | exact absurd rfl z) σ H Q q⟩
/-! ### [::-1] -/
theorem pe_revS {k : Nat} {p1 p2 p3 : Pos} {te : TE} (he : PE X a te) : PE X (.Subscript a (.Slice none none (some (.UnaryOp .USub (.Constant (.int 1) k p1) p2)) p3) pos) (fun σ H Q => te σ H fun x H1 => ∃ z : Str, x = .str z ∧ z.cps.size ≤ sizeLine ∧ Q (.str ⟨z.cps.toList.reverse.toArray⟩) H1) := by
  refine ⟨fun pins s σ H Q I h => ?_⟩
  refine Subscript_ (thn (he.run pins s σ H _ I h) fun v s1 ⟨x, H1, I1, r1, q1⟩ => ?_)
  obtain ⟨z, ex, hz, q⟩ := q1
  subst ex
  obtain ⟨t, rfl⟩ := r1
  have hst : PO X (some (.UnaryOp .USub (.Constant (.int 1) k p1) p2)) (tPart (tUn (rU fun i => .int (-i)) (tC (.int 1)))) := po_some (pe_un un_neg pe_int)
  refine wpAny_Slice (thn (po_none.run pins s1 σ H1 (fun o H2 => o = none ∧ H2 = H1) I1 ⟨rfl, rfl⟩) fun vl s2 ⟨l, H2, I2, pl, el, e2⟩ => ?_)
  subst el e2
  refine thn (po_none.run pins s2 σ H2 (fun o H3 => o = none ∧ H3 = H2) I2 ⟨rfl, rfl⟩) fun vu s3 ⟨u, H3, I3, pu, eu, e3⟩ => ?_
  subst eu e3
  refine thn (hst.run pins s3 σ H3 (fun o H4 => o = some (-1) ∧ H4 = H3) I3 ⟨1, rfl, -1, rfl, rfl, rfl⟩) fun vs s4 ⟨o, H4, I4, ps, eo, e4⟩ => ?_
  subst eo e4
  have I5 : Inv X pins σ H4 { s4 with heap := s4.heap.push { cls := .type "slice", data := .fields #[vl, vu, vs] } } := I4.kept (t' := s4.toks) fun b ob q => Heap.get?_push_of_some _ q
  obtain ⟨l, rfl, hl0⟩ := IsPart.raw pl
  obtain ⟨u, rfl, hu0⟩ := IsPart.raw pu
  obtain ⟨st, rfl, hs0⟩ := IsPart.raw ps
  cases l with
  | some _ => cases hl0
  | none =>
    cases u with
    | some _ => cases hu0
    | none =>
      cases st with
      | none => cases hs0
      | some y =>
        obtain ⟨j, tk⟩ := y
        have hj : j = -1 := Option.some.inj hs0
        subst hj
        show wpAny (model X.prog X.w) X.A (subscriptTail a (.Slice none none (some (.UnaryOp .USub (.Constant (.int 1) k p1) p2)) p3) (.str z t) (.ref s4.heap.objs.size)) (EP X pins σ Q) X.xe _
        refine tail_any (ops := [.str z t, .ref s4.heap.objs.size]) (typeIs_str _ z t) (F.slot_str_getitem.lookup) ?_ (by with_unfolding_all rfl)
        refine wpAny_getItem_str_slice (l := none) (u := none) (st := some (-1, tk)) ⟨_, Heap.get?_push_size _ rfl, rfl, rfl⟩ rfl ?_
        have e1 : ((slicePicked z none none (some (-1, tk))).filterMap (z.cps[·]?)).toArray = z.cps.toList.reverse.toArray := by
          have e2 : slicePicked z none none (some (-1, tk)) = sliceRange ((z.cps.size : Int) - 1) (-1) (-1) := rfl
          rw [e2, PySem.W.krv_sliceRange, PySem.W.krv_range, List.filterMap_reverse, PySem.W.krv_all]
        show Made.post (if ((-1 : Int) == 1 && (slicePicked z none none (some (-1, tk))).length == z.length) = true then Made.val (.str z t) else Made.str ⟨((slicePicked z none none (some (-1, tk))).filterMap (z.cps[·]?)).toArray⟩) (EP X pins σ Q) _
        rw [if_neg (by simp), e1]
        exact ⟨by show (z.cps.toList.reverse.toArray).size ≤ sizeLine; simpa using hz, .str _, H4, I5.tok _, ⟨_, rfl⟩, q⟩
theorem s_rev {k : Nat} {p1 p2 p3 : Pos} (h : Snd X W a m) (ht : ∀ whole, isTrue (.Subscript a (.Slice none none (some (.UnaryOp .USub (.Constant (.int 1) k p1) p2)) p3) pos) X.env whole = (do let v ← whole; standAt (Expr.Subscript a (.Slice none none (some (.UnaryOp .USub (.Constant (.int 1) k p1) p2)) p3) pos).pos; holding [v] (truthy v))) :
    Snd X W (.Subscript a (.Slice none none (some (.UnaryOp .USub (.Constant (.int 1) k p1) p2)) p3) pos) (.rev m) := by
  refine Snd.of (PE.mono (PE.or (pe_revS h.pp) (pe_revL h.pp)) fun σ H Q ⟨F, ρ, Hf, r, p⟩ => ?_) (fun i z => nomatch z) ht
  have p : Post (ctx X) F W σ (dE (ctx X) σ) Q Hf ((pre m (ev m) ρ).bind fun x => match fin m x.1 x.2 with
    | some (.lst l) => .ok (.lst l.reverse, x.2)
    | some (.str l) => .ok (.str l.reverse, x.2)
    | _ => .stuck) := p
  cases q : pre m (ev m) ρ with
  | stuck => rw [q] at p; exact p.elim
  | exc n ρ' => exact .inl ⟨F, ρ, Hf, r, by rw [q] at p ⊢; exact p⟩
  | ok x =>
    obtain ⟨o, ρ'⟩ := x
    rw [q] at p
    dsimp only [Out.bind] at p
    cases z : fin m o ρ' with
    | none => rw [z] at p; exact p.elim
    | some d =>
      rw [z] at p
      cases d with
      | str l =>
        refine .inl ⟨F, ρ, Hf, r, ?_⟩
        rw [q]
        intro v H' Hf' r' s' dn
        obtain ⟨rfl, g1, g2⟩ := (show Den (ctx X) Hf' (.str l) v from top_fin r' (Same.refl _) dn z)
        refine ⟨_, rfl, ?_, ?_⟩
        · rw [sizeLine_eq]; simpa using g1
        · exact p _ H' Hf' r' s' ⟨by simp, by simpa using g1, fun y hy => g2 y (by simpa using hy)⟩
      | lst l =>
        refine .inr ⟨F, ρ, Hf, r, ?_⟩
        rw [q]
        intro v H' Hf' r' s' dn
        obtain ⟨b, vs, rfl, h1, h2⟩ := (show Top (ctx X) Hf' H' (.lst l) v from top_fin r' (Same.refl _) dn z)
        refine ⟨b, vs, rfl, SqL.of h1, fun a ha => ?_⟩
        obtain ⟨r2, s2⟩ := r'.alloc ha (.lst vs.reverse)
        exact p _ _ _ r2 (s'.trans s2) ⟨a, _, rfl, upd_same, Dens.mono s2 _ _ (Dens.reverse h2)⟩
      | _ => exact p.elim
end
end NV

/-! NV.R: raise, append, x[i] = v. -/
namespace NV
open PySem PySem.Spec PyProof.Rows L2

/-- a class of exceptions of the module -/
structure ExcAt (X : Cx) (n : Str) : Prop where
  ex : ∃ (C : Addr) (B newId initId : String) (bmB : List Value), ExcBaseFacts B newId initId bmB ∧ PySem.W.excIn X.K C bmB newId = true ∧ X.mg n = some (.ref C) ∧ PySem.W.keepIn X.K (.ref C) = true ∧
    PySem.W.subIn X.K (.ref C) (.type "BaseException") = some true ∧ PySem.W.typeIn X.K (.ref C) = some (.type "type")
section
variable {X : Cx} {W : WX} {fr : Bool} {n : Nat} {pos pos2 p p2 : Pos}
theorem ss_rai {x : String} {msg : Str} {j : Nat} (hc : X.calm = true) (tk : L2N.Takes X W) (h : ExcAt X (Str.ofString x)) (hg : Gl X (Str.ofString x)) (hdb : ((Str.ofString x) == ("__debug__" : Str)) = false) :
    SndS X W fr n (.Raise (some (.Call (.Name (Str.ofString x) p) [.Constant (.str msg) j p2] [] pos)) none pos2) (.rai x) := by
  obtain ⟨C, B, newId, initId, bmB, F, q, gC, kC, sub, ty⟩ := h.ex
  refine ⟨PS.mono (L2N.ps_raise hc tk (L2N.pmk_own F q gC kC (raises_own sub ty) hg hdb)) fun D σ H ⟨F, ρ, Hf, r, p⟩ => ?_⟩
  exact p σ H Hf C r (Same.refl _) gC
theorem owAt_some {ρ : Rho} {i : Nat} {d : D} {f : D → Ent} (h : owAt ρ i = some (d, f)) : ∃ e, ρ[i]? = some e ∧ e.own? = some d ∧ ((e = .ow d ∧ f = .ow) ∨ (e = .io d ∧ f = .io)) := by
  unfold owAt at h
  split at h
  · rename_i d' q
    cases h
    exact ⟨_, q, rfl, .inl ⟨rfl, rfl⟩⟩
  · rename_i d' q
    cases h
    exact ⟨_, q, rfl, .inr ⟨rfl, rfl⟩⟩
  · cases h
theorem owAt_peek {ρ : Rho} {i : Nat} {d : D} {f : D → Ent} (h : owAt ρ i = some (d, f)) : peek ρ i = some d := by
  obtain ⟨e, h1, _, h2⟩ := owAt_some h
  unfold peek
  rw [h1]
  rcases h2 with ⟨rfl, _⟩ | ⟨rfl, _⟩ <;> rfl
/-- an own name's address, read -/
theorem own_read {c : Ct} {F : Fr} {ρ : Rho} {σ : St} {H Hf : Hp} {W : WX} {i : Nat} {d : D} {f : D → Ent} {Q : VK} (r : R c F ρ σ H Hf) (h : owAt ρ i = some (d, f)) (k : ∀ a, σ[i]? = some (some (.ref a)) → Own c Hf H d a → ∀ H' Hf', R c F ρ σ H' Hf' → Same Hf Hf' → Q (.ref a) H') : tP c W (.var i) σ H Q := by
  refine ⟨F, ρ, Hf, r, ?_⟩
  have e1 : pre (.var i) (ev (.var i)) ρ = .ok (none, ρ) := by
    show (match peek ρ i with | some _ => Out.ok (none, ρ) | none => Out.stuck) = _
    rw [owAt_peek h]
  rw [e1]
  intro v H' Hf' r' s' hv
  have hv : σ[i]? = some (some v) := hv
  obtain ⟨e, h1, h2, _⟩ := owAt_some h
  obtain ⟨a, w1, w2⟩ := r.own i e d h1 h2
  rw [hv] at w1
  cases w1
  exact k a hv w2 H' Hf' r' s'
theorem own_mut {c : Ct} {F : Fr} {ρ : Rho} {σ : St} {H Hf : Hp} {i : Nat} {d d' : D} {f : D → Ent} {a : Addr} {o : HO} (r : R c F ρ σ H Hf) (h : owAt ρ i = some (d, f)) (hs : σ[i]? = some (some (.ref a))) (w : Own c Hf (upd H a o) d' a) : R c F (ρ.set i (f d')) σ (upd H a o) Hf := by
  obtain ⟨e, h1, h2, h3⟩ := owAt_some h
  refine r.mut h1 h2 hs ?_ w
  rcases h3 with ⟨rfl, rfl⟩ | ⟨rfl, rfl⟩
  · exact .inl ⟨rfl, rfl⟩
  · exact .inr ⟨rfl, rfl⟩
theorem own_at {c : Ct} {F : Fr} {ρ : Rho} {σ : St} {H Hf : Hp} {i : Nat} {d : D} {f : D → Ent} {a : Addr} (r : R c F ρ σ H Hf) (h : owAt ρ i = some (d, f)) (hs : σ[i]? = some (some (.ref a))) : Own c Hf H d a := by
  obtain ⟨e, h1, h2, _⟩ := owAt_some h
  obtain ⟨b, w1, w2⟩ := r.own i e d h1 h2
  rw [hs] at w1
  cases w1
  exact w2
/-- name.append(e) -/
theorem ss_app {o x : Expr} {i : Nat} {e : ME} {apos cpos : Pos} (ho : Snd X W o (.var i)) (h : Snd X W x e)
    (hb : attributeBase o "append" X.env (eval o X.env) = eval o X.env)
    (hfew : ((backTo cpos (starEach (x :: []) X.env)).all (fun x => !x.1) && (backToKw cpos (keywordEach [] X.env)).all (fun x => x.1.isSome)
      && decide ((x :: []).length + ([] : List Keyword).length + (if ([] : List Keyword).isEmpty then 0 else 1) < 30)) = true)
    (hline : (apos.endLine == cpos.line) = true) (hs : starEach (x :: []) X.env = (false, eval x X.env) :: starEach [] X.env) (hplain : (backTo cpos (starEach [] X.env)).any (·.1) = false)
    (hsw : swapsWith (.Call (.Attribute o "append" apos) [x] [] cpos) none pos.line X.env = pure false) : SndS X W fr n (.Expr (.Call (.Attribute o "append" apos) [x] [] cpos) pos) (.app i e) := by
  refine ⟨PS.mono (ps_expr (pe_bm PySem.F.plainAttrs_list PySem.F.slot_list_append PySem.F.type_list_append mt_append ho.pp (pa_cons h.pe pa_nil hs) hb hfew hline hs hplain) hsw) fun D σ H ⟨F, ρ, Hf, r, p⟩ => ?_⟩
  have p : PostS (ctx X) F W fr D Hf (match owAt ρ i with
    | some (.lst _, _) => (ev e ρ).bind fun x => match owAt x.2 i with
      | some (d, f) => match appW d x.1 with
        | some d' => .ok (.nx, x.2.set i (f d'))
        | none => .stuck
      | none => .stuck
    | _ => .stuck) := p
  cases q : owAt ρ i with
  | none => rw [q] at p; exact p.elim
  | some y =>
    obtain ⟨d, f⟩ := y
    rw [q] at p
    cases d with
    | lst l0 =>
      dsimp only at p
      refine own_read r q fun a ha w H1 Hf1 r1 s1 => ?_
      obtain ⟨_, vs0, w1, _⟩ := own_at r1 q ha
      refine ⟨.inl ⟨rfl, vs0, SqL.of w1⟩, ?_⟩
      refine stepS (dnS := dE (ctx X)) (f := fun x => match owAt x.2 i with
        | some (d, f) => match appW d x.1 with
          | some d' => .ok (.nx, x.2.set i (f d'))
          | none => .stuck
        | none => .stuck) r1 (PostS.mono s1 p) fun d ρ2 v H2 Hf2 r2 s2 dn p2 => ?_
      dsimp only at p2
      cases q2 : owAt ρ2 i with
      | none => rw [q2] at p2; exact p2.elim
      | some y2 =>
        obtain ⟨d2, f2⟩ := y2
        rw [q2] at p2
        dsimp only at p2
        cases d2 with
        | lst l =>
          have p2 : PostS (ctx X) F W fr D Hf2 (match (if l.length < 16777215 then some (NV.D.lst (l ++ [d])) else none) with
            | some d' => .ok (.nx, ρ2.set i (f2 d'))
            | none => .stuck) := p2
          by_cases hl : l.length < 16777215
          · rw [if_pos hl] at p2
            obtain ⟨g0, vs, g1, g2⟩ := own_at r2 q2 ha
            have hlen := Dens.length g2
            refine ⟨a, vs, v, rfl, rfl, g1, by rw [sizeLine_eq]; omega, ?_⟩
            have w2 : Own (ctx X) Hf2 (upd H2 a (.lst (vs ++ [v]))) (.lst (l ++ [d])) a := ⟨g0, _, upd_same, Dens.append g2 (Dens.one dn)⟩
            exact p2 σ _ Hf2 (own_mut r2 q2 ha w2) (Same.refl _)
          · rw [if_neg hl] at p2; exact p2.elim
        | _ => exact p2.elim
    | _ => exact p.elim
/-- name[k] = v, the name an own list's -/
theorem ss_setI {o x y : Expr} {i : Nat} {e k : ME} {p3 : Pos} (ho : Snd X W o (.var i)) (hk : Snd X W y k) (h : Snd X W x e)
    (ha : ∀ v, assign (.Subscript o y p3) X.env v = (do
      let ov ← holding [v] (eval o X.env)
      let iv ← holding [v, ov] (eval y X.env)
      standAt p3
      holding [v, ov, iv] (setItem ov iv v)
      release [v, ov, iv] []))
    (hs : swapsWithSole [.Subscript o y p3] x pos.line X.env = pure false) (hw : swappedStores [.Subscript o y p3] x X.env = pure none) (h1 : (assignEach [.Subscript o y p3] X.env).map (·.2) = [assign (.Subscript o y p3) X.env]) :
    SndS X W fr n (.Assign [.Subscript o y p3] x pos) (.setI i k e) := by
  refine ⟨PS.mono (ps_asg h.pe (pg_sub ho.pp hk.pe set_list ha) hs hw h1) fun D σ H ⟨F, ρ, Hf, r, p⟩ => ?_⟩
  refine stepS (dnS := dE (ctx X)) (f := fun x => match owAt x.2 i with
    | some _ => (ev k x.2).bind fun y => match owAt y.2 i with
      | some (d, f) => match setIW d y.1 x.1 with
        | some d' => .ok (.nx, y.2.set i (f d'))
        | none => .stuck
      | none => .stuck
    | none => .stuck) r p fun d ρ1 v H1 Hf1 r1 s1 dn p1 => ?_
  dsimp only at p1
  cases q : owAt ρ1 i with
  | none => rw [q] at p1; exact p1.elim
  | some z =>
    obtain ⟨d0, f0⟩ := z
    rw [q] at p1
    dsimp only at p1
    show tP (ctx X) W (.var i) σ H1 _
    refine own_read r1 q fun a ha w H2 Hf2 r2 s2 => ?_
    refine stepS (dnS := dE (ctx X)) (f := fun y => match owAt y.2 i with
      | some (d2, f) => match setIW d2 y.1 d with
        | some d' => .ok (.nx, y.2.set i (f d'))
        | none => .stuck
      | none => .stuck) r2 (PostS.mono s2 p1) fun dk ρ3 vk H3 Hf3 r3 s3 dnk p3 => ?_
    dsimp only at p3
    cases q3 : owAt ρ3 i with
    | none => rw [q3] at p3; exact p3.elim
    | some z =>
      obtain ⟨d3, f3⟩ := z
      rw [q3] at p3
      dsimp only at p3
      cases d3 with
      | lst l =>
        cases dk with
        | int j =>
          have p3 : PostS (ctx X) F W fr D Hf3 (match (if 0 ≤ j ∧ j < l.length then some (NV.D.lst (l.set j.toNat d)) else none) with
            | some d' => .ok (.nx, ρ3.set i (f3 d'))
            | none => .stuck) := p3
          by_cases hj : 0 ≤ j ∧ j < l.length
          · rw [if_pos hj] at p3
            obtain ⟨g0, vs, g1, g2⟩ := own_at r3 q3 ha
            have hlen := Dens.length g2
            cases dnk
            refine ⟨a, vs, j, j.toNat, rfl, rfl, g1, ?_, ?_⟩
            · unfold ixN
              rw [if_pos hj.1, if_pos (by rw [← hlen]; exact hj.2)]
            · have w2 : Own (ctx X) Hf3 (upd H3 a (.lst (vs.set j.toNat v))) (.lst (l.set j.toNat d)) a := ⟨g0, _, upd_same, Dens.set _ g2 (Den.mono (s2.trans s3) _ _ dn)⟩
              exact p3 σ _ Hf3 (own_mut r3 q3 ha w2) (Same.refl _)
          · rw [if_neg hj] at p3; exact p3.elim
        | _ => exact p3.elim
      | _ => exact p3.elim
end
end NV

/-! NV.S: the lemmas as a generator of proof terms wants them. -/
namespace NV
open PySem PySem.Spec PyProof.Rows L2

/-- the built-ins are not hidden by the module -/
structure Blt (mg : Str → Option Value) : Prop where
  len : mg "len" = none
  all : mg "all" = none
  any : mg "any" = none
  int : mg "int" = none
  tuple : mg "tuple" = none
  list : mg "list" = none
  isinstance : mg "isinstance" = none
  range : mg "range" = none
  zip : mg "zip" = none
  enumerate : mg "enumerate" = none
  set : mg "set" = none
  str : mg "str" = none
  bool : mg "bool" = none
/-- what holds in every context of the module's text -/
structure Okc (X : Cx) (W : WX) : Prop where
  hu : X.A.units + 65 < cLine
  tk : L2N.Takes X W
  blt : Blt X.mg
  mach : MachOk (ctx X)
  cls : ClsOk (ctx X)
  calm : X.calm = true
  nd : X.N.Nodup
theorem Okc.blk {X : Cx} {W : WX} (o : Okc X W) (s : Shared) (H : Hp) (scope : Scope) (env : Env) (fp : List Addr) : Okc (X.blk s H scope env fp) W0 :=
  ⟨o.hu, fun u s' ⟨_, _, _, _, _, _, _, _, _, _, _, _, _, _, _, _, w⟩ => w.elim, o.blt, o.mach, o.cls, o.calm, o.nd⟩
/-- a def of the module, at its level -/
structure FnG (P : Program) (w : World) (K : PySem.W.Frag) (mg : Str → Option Value) (base : Heap) (k : Nat) (x : Str) (f : FnE) : Prop where
  ex : ∃ (fa : Addr) (fd : FuncData) (ps : List Str), mg x = some (.ref fa) ∧ FnOk P w K mg base (L2N.CX P w) k fa fd ps (spF ⟨P, w, K, mg⟩ f) ∧ PySem.W.keepIn K (.ref fa) = true ∧ Binds K fd ps []
theorem FnG.at {X : Cx} {k j : Nat} {x : Str} {f : FnE} (F : FnG X.prog X.w X.K X.mg X.base k x f) (hr : Room j X.A) (hk : k ≤ j) : FnAt X x f := by
  obtain ⟨fa, fd, ps, h1, h2, h3, h4⟩ := F.ex
  exact ⟨k, fa, fd, ps, h1, h2, h3, h4, hr.mono hk⟩
def goodS (l : List Nat) : Bool := decide (l.length ≤ 16777216) && l.all fun x => decide (x < 0x110000)
theorem good_of {l : List Nat} (h : goodS l = true) : strGood l := by
  unfold goodS at h
  rw [Bool.and_eq_true, decide_eq_true_eq, List.all_eq_true] at h
  exact ⟨h.1, fun x hx => by simpa using h.2 x hx⟩
section
variable {X : Cx} {W : WX} {fr : Bool} {n : Nat} {pos pos2 p p2 p3 q : Pos} {e a b c : Expr} {m ma mb mc : ME} {x : Str} {i j k : Nat}
theorem g_v (hi : X.N[i]? = some x := by rfl) (hv : Vis X.env.scope x := by first | exact .inl rfl | exact .inr (.inl rfl) | exact .inr (.inr rfl)) (hd : (x == ("__debug__" : Str)) = false := by decide) (hcd : (x == ("__classdict__" : Str)) = false := by decide) : Snd X W (.Name x pos) (.var i) :=
  s_var (pe_var hi hv hd hcd) (fun _ => rfl)
theorem g_int {z : Int} : Snd X W (.Constant (.int z) j pos) (.cst (.int z)) := s_cst pe_int (fun _ => rfl) (fun _ => rfl)
theorem g_bl {z : Bool} : Snd X W (.Constant (.bool z) j pos) (.cst (.bl z)) := s_cst pe_bl (fun _ => rfl) (fun _ => rfl)
theorem g_non : Snd X W (.Constant .none j pos) (.cst .non) := s_cst pe_non (fun _ => rfl) (fun _ => rfl)
theorem g_str {l : List Nat} (h : x = ⟨l.toArray⟩ := by rfl) (hg : goodS l = true := by decide) : Snd X W (.Constant (.str x) j pos) (.cst (.str l)) :=
  s_cst pe_str (fun _ => ⟨by rw [h], good_of hg⟩) (fun _ => rfl)
theorem g_gs {l : List Nat} {z : Str} (hm : ∃ t, X.mg x = some (.str z t)) (h : z = ⟨l.toArray⟩ := by rfl) (hg : goodS l = true := by decide) (hl : Gl X x := by rfl) (hd : (x == ("__debug__" : Str)) = false := by decide) : Snd X W (.Name x pos) (.cst (.str l)) :=
  let ⟨t, hm⟩ := hm; s_cst (pe_glob (v := .str z) hl hm ⟨t, rfl⟩ hd) (fun _ => ⟨by rw [h], good_of hg⟩) (fun _ => rfl)
theorem g_gi {z : Int} (hm : ∃ t, X.mg x = some (.int z t)) (hl : Gl X x := by rfl) (hd : (x == ("__debug__" : Str)) = false := by decide) : Snd X W (.Name x pos) (.cst (.int z)) :=
  let ⟨t, hm⟩ := hm; s_cst (pe_glob (v := .int z) hl hm ⟨t, rfl⟩ hd) (fun _ => rfl) (fun _ => rfl)
theorem g_op (o : Op) (ha : Snd X W a ma) (hb : Snd X W b mb) : Snd X W (.BinOp a (opOp o) b pos) (.bin o ma mb) := s_op ha hb (op_bi o)
theorem g_cmp (O : Okc X W) (o : Cm) (ha : Snd X W a ma) (hb : Snd X W b mb) (hm : behindInMarks (cmOp o) b = false := by rfl) : Snd X W (.Compare a [cmOp o] [b] pos) (.cmp o ma mb) := s_cmp ha hb hm (op_cm O.hu o)
theorem g_chn (O : Okc X W) (o o' : Cm) (ha : Snd X W a ma) (hb : Snd X W b mb) (hc : Snd X W c mc) (hm : lastMarks [cmOp o, cmOp o'] [b, c] = false := by rfl) : Snd X W (.Compare a [cmOp o, cmOp o'] [b, c] pos) (.chn o o' ma mb mc) := s_chn O.hu ha hb hc hm
theorem g_idx (O : Okc X W) (ha : Snd X W a ma) (hb : Snd X W b mb) (hp : PlainIx b := by intro _ _; rfl) : Snd X W (.Subscript a b pos) (.idx ma mb) := s_idx O.hu ha hb hp
theorem g_rev (h : Snd X W a m) (ht : ∀ whole, isTrue (.Subscript a (.Slice none none (some (.UnaryOp .USub (.Constant (.int 1) k p) p2)) p3) pos) X.env whole = (do let v ← whole; standAt (Expr.Subscript a (.Slice none none (some (.UnaryOp .USub (.Constant (.int 1) k p) p2)) p3) pos).pos; holding [v] (truthy v)) := by intro _; rfl) :
    Snd X W (.Subscript a (.Slice none none (some (.UnaryOp .USub (.Constant (.int 1) k p) p2)) p3) pos) (.rev m) := s_rev h ht
theorem g_len (O : Okc X W) (h : Snd X W a m) (hg : Gl X "len" := by rfl) (he : starEach [a] X.env = (false, eval a X.env) :: starEach [] X.env := by rfl) : Snd X W (.Call (.Name "len" p) [a] [] pos) (.b1 .len m) :=
  s_b1 (.cons h he .nil) call_lenX hg O.blt.len boot_len (by decide) (by decide) he
theorem g_all (O : Okc X W) (h : Snd X W a m) (hg : Gl X "all" := by rfl) (he : starEach [a] X.env = (false, eval a X.env) :: starEach [] X.env := by rfl) : Snd X W (.Call (.Name "all" p) [a] [] pos) (.b1 .all m) :=
  s_b1 (.cons h he .nil) (call_allX O.calm) hg O.blt.all (by rfl) (by decide) (by decide) he
theorem g_any (O : Okc X W) (h : Snd X W a m) (hg : Gl X "any" := by rfl) (he : starEach [a] X.env = (false, eval a X.env) :: starEach [] X.env := by rfl) : Snd X W (.Call (.Name "any" p) [a] [] pos) (.b1 .any m) :=
  s_b1 (.cons h he .nil) (call_anyX O.calm) hg O.blt.any (by rfl) (by decide) (by decide) he
theorem g_toint (O : Okc X W) (h : Snd X W a m) (hg : Gl X "int" := by rfl) (he : starEach [a] X.env = (false, eval a X.env) :: starEach [] X.env := by rfl) : Snd X W (.Call (.Name "int" p) [a] [] pos) (.b1 .int m) :=
  s_b1T (.cons h he .nil) call_intX hg O.blt.int (by rfl) (by decide) (by decide) he
theorem g_totup (O : Okc X W) (h : Snd X W a m) (hg : Gl X "tuple" := by rfl) (he : starEach [a] X.env = (false, eval a X.env) :: starEach [] X.env := by rfl) : Snd X W (.Call (.Name "tuple" p) [a] [] pos) (.b1 .tuple m) :=
  s_b1T (.cons h he .nil) call_tupleX hg O.blt.tuple (by rfl) (by decide) (by decide) he
theorem g_tolist (O : Okc X W) (h : Snd X W a m) (hg : Gl X "list" := by rfl) (he : starEach [a] X.env = (false, eval a X.env) :: starEach [] X.env := by rfl) : SndF X W (.Call (.Name "list" p) [a] [] pos) (.b1 .list m) :=
  s_list (.cons h he .nil) hg O.blt.list O.calm (by rfl) he
theorem g_lenset (O : Okc X W) (h : Snd X W a m) (hg : Gl X "len" := by rfl) (hg2 : Gl X "set" := by rfl) (he : starEach [a] X.env = (false, eval a X.env) :: starEach [] X.env := by rfl) : Snd X W (.Call (.Name "len" p) [.Call (.Name "set" p2) [a] [] q] [] pos) (.b1 .lenset m) :=
  s_lenset h hg O.blt.len hg2 O.blt.set O.calm he
/-- a new container as a value -/
theorem g_val (h : SndF X W e m) (hm : ∀ i, m ≠ .var i := by intro _ z; exact nomatch z) (he : ∀ whole, isTrue e X.env whole = (do let v ← whole; standAt e.pos; holding [v] (truthy v)) := by intro _; rfl) : Snd X W e m := h.snd hm he
theorem g_isi (O : Okc X W) {t : String} (h : Snd X W a m) (hm2 : X.mg (Str.ofString t) = none) (hv : bootBuiltins (Str.ofString t) = some (.type t) := by rfl) (ht : t ∈ tyL := by decide) (hl : Gl X (Str.ofString t) := by rfl) (hg : Gl X "isinstance" := by rfl)
    (he : starEach [a, .Name (Str.ofString t) p2] X.env = [(false, eval a X.env), (false, eval (.Name (Str.ofString t) p2) X.env)] := by rfl) (he2 : starEach [.Name (Str.ofString t) p2] X.env = [(false, eval (.Name (Str.ofString t) p2) X.env)] := by rfl) (hn : Str.ofString t ≠ "__name__" := by decide) (hd : (Str.ofString t == ("__debug__" : Str)) = false := by decide) :
    Snd X W (.Call (.Name "isinstance" p) [a, .Name (Str.ofString t) p2] [] pos) (.isi m t) :=
  s_isi O.mach h (pe_bltn (v := .ty t) hl hm2 hv rfl hn hd) (.ty t) (.inl ⟨ht, rfl⟩) hg O.blt.isinstance he he2
theorem g_isM (O : Okc X W) {C : Addr} (h : Snd X W a m) (hC : MachAt (ctx X) C) (hl : Gl X "Machine" := by rfl) (hg : Gl X "isinstance" := by rfl)
    (he : starEach [a, .Name "Machine" p2] X.env = [(false, eval a X.env), (false, eval (.Name "Machine" p2) X.env)] := by rfl) (he2 : starEach [.Name "Machine" p2] X.env = [(false, eval (.Name "Machine" p2) X.env)] := by rfl) :
    Snd X W (.Call (.Name "isinstance" p) [a, .Name "Machine" p2] [] pos) (.isi m "Machine") :=
  s_isi O.mach h (pe_glob (v := .ref C) hl hC.mg rfl (by decide)) (.own C) (.inr ⟨rfl, C, hC, rfl⟩) hg O.blt.isinstance he he2
theorem g_join {o : Expr} {mo : ME} {apos : Pos} (ho : Snd X W o mo) (he : Snd X W e m) (hs : starEach [e] X.env = [(false, eval e X.env)] := by rfl) (hb : attributeBase o "join" X.env (eval o X.env) = eval o X.env := by rfl) (hl : (apos.endLine == pos.line) = true := by rfl) :
    Snd X W (.Call (.Attribute o "join" apos) [e] [] pos) (.join mo m) := s_join ho he hs hb hl
theorem g_get (O : Okc X W) {o y z : Expr} {mo mk mx : ME} {apos cpos : Pos} (ho : Snd X W o mo) (hk : Snd X W y mk) (hx : Snd X W z mx) (h1 : attributeBase o "get" X.env (eval o X.env) = eval o X.env := by rfl)
    (h2 : ((backTo cpos (starEach [y, z] X.env)).all (fun x => !x.1) && (backToKw cpos (keywordEach [] X.env)).all (fun x => x.1.isSome)
    && decide (([y, z] : List Expr).length + ([] : List Keyword).length + (if ([] : List Keyword).isEmpty then 0 else 1) < 30)) = true := by rfl) (h3 : (apos.endLine == cpos.line) = true := by rfl) (h4 : backTo cpos (starEach [y, z] X.env) = [(false, eval y X.env), (false, eval z X.env)] := by rfl) :
    Snd X W (.Call (.Attribute o "get" apos) [y, z] [] cpos) (.get mo mk mx) := s_get O.hu ho hk hx ⟨h1, h2, h3, h4⟩
theorem g_kv {k v : Expr} {ks : List (Option Expr)} {vs : List Expr} {s : List Nat} {z : Int} {ss : List (List Nat)} {is : List Int} (hk : Snd X W k (.cst (.str s))) (hv : Snd X W v (.cst (.int z))) (t : KVs X pos ks vs ss is)
    (h1 : PE X k (tC (.str ⟨s.toArray⟩)) := by exact pe_str) (h2 : PE X v (tC (.int z)) := by first | exact pe_int | exact pe_un un_neg pe_int) : KVs X pos (some k :: ks) (v :: vs) (s :: ss) (z :: is) := .cons h1 h2 t
theorem pe_strc (l : List Nat) (h : x = ⟨l.toArray⟩ := by rfl) : PE X (.Constant (.str x) j pos) (tC (.str ⟨l.toArray⟩)) := by
  subst h
  exact pe_str
theorem pe_neg {z : Int} : PE X (.UnaryOp .USub (.Constant (.int z) j p) pos) (tC (.int (-z))) := PE.mono (pe_un un_neg pe_int) fun σ H Q q => ⟨z, rfl, q⟩
theorem g_dsel (O : Okc X W) {ks : List (Option Expr)} {vs : List Expr} {ss : List (List Nat)} {is : List Int} (h : KVs X p ks vs ss is) (he : Snd X W e m) (h0 : ks ≠ [] := by exact List.cons_ne_nil _ _) (h15 : ks.length ≤ 15 := by decide) (hnd : ss.Nodup := by decide) (hn : NoSl e := by intro _ _; rfl) :
    Snd X W (.Subscript (.Dict ks vs p) e pos) (.dsel ss is m) := s_dsel O.hu h h0 h15 hnd he hn
/-! lists -/
theorem g_l1 {es : List Expr} {ms : List ME} (h : Snd X W e m) (t : SndL X W es ms) (hs : starEach (e :: es) X.env = (false, eval e X.env) :: starEach es X.env := by rfl) : SndL X W (e :: es) (m :: ms) := .cons h hs t
theorem g_and {es : List Expr} {ms : List ME} (h : SndL X W es ms) (hn : ms ≠ [] := by exact List.cons_ne_nil _ _) : Snd X W (.BoolOp .And es pos) (.and ms) := s_and h hn
theorem g_or {es : List Expr} {ms : List ME} (h : SndL X W es ms) (hn : ms ≠ [] := by exact List.cons_ne_nil _ _) : Snd X W (.BoolOp .Or es pos) (.or ms) := s_or h hn
theorem g_tup {es : List Expr} {ms : List ME} (h : SndL X W es ms) (hl : ms.length ≤ 16777216 := by exact Nat.le_of_ble_eq_true rfl) : Snd X W (.Tuple es k pos) (.tup ms) := s_tup h (by rw [sizeLine_eq]; exact hl)
theorem g_lst {es : List Expr} {ms : List ME} (h : SndL X W es ms) (hl : ms.length ≤ 16777216 := by exact Nat.le_of_ble_eq_true rfl) : SndF X W (.List es pos) (.lst ms) := s_lst h (by rw [sizeLine_eq]; exact hl)
/-! comprehensions -/
structure SndIf (X : Cx) (ifs : List Expr) (ms : List ME) : Prop where
  pt : PTs X ifs (tvG (ctx X) W0 dI (evIfs ms))
theorem g_if0 : SndIf X [] [] := ⟨⟨fun pins s σ H Q I ⟨F, ρ, Hf, r, p⟩ => pts_nil.run pins s σ H Q I (p true H Hf r (Same.refl _) rfl)⟩⟩
theorem g_if1 (h : Snd X W0 e m) : SndIf X [e] [m] := ⟨⟨fun pins s σ H Q I q => (pts_one h.pt).run pins s σ H Q I q⟩⟩
/-- a target -/
structure SndT (X : Cx) (e : Expr) (t : Tg) : Prop where
  pg : PG X e (gT (ctx X) t)
structure SndTs (X : Cx) (es : List Expr) (l : List Nat) : Prop where
  pgs : PGs X es (gNs l)
theorem g_t (hN : X.N.Nodup) (hi : X.N[i]? = some x := by rfl) (hx : Loc X.env.scope x := by first | exact .inl rfl | exact .inr rfl) (hf : X.fn x = true ∨ X.env.scope.names.lookup x = some .local := by first | exact .inl rfl | exact .inr rfl) : SndT X (.Name x pos) (.nm i) := ⟨pg_name hN hi hx hf⟩
theorem g_t0 : SndTs X [] [] := ⟨pgs_nil⟩
theorem g_t1 {es : List Expr} {l : List Nat} (hN : X.N.Nodup) (t : SndTs X es l) (hi : X.N[i]? = some x := by rfl) (hx : Loc X.env.scope x := by first | exact .inl rfl | exact .inr rfl) (hf : X.fn x = true ∨ X.env.scope.names.lookup x = some .local := by first | exact .inl rfl | exact .inr rfl) 
    (hs : (assignEach (.Name x pos :: es) X.env).map (·.2) = assign (.Name x pos) X.env :: (assignEach es X.env).map (·.2) := by rfl) : SndTs X (.Name x pos :: es) (i :: l) := ⟨pgs_cons (pg_name hN hi hx hf) t.pgs hs⟩
theorem g_tt {es : List Expr} {l : List Nat} (t : SndTs X es l) (hc : X.calm = true := by rfl) (hn : (assignEach es X.env).length = l.length := by rfl) (hst : (assignEach es X.env).findIdx? (·.1) = none := by rfl) : SndT X (.Tuple es k pos) (.tp l) := ⟨pg_tup hc t.pgs hn hst⟩
structure SndI (X : Cx) (W : WX) (tg iter : Expr) (k : IK) (ms : List ME) : Prop where
  pi : PI X tg iter (iX (ctx X) W k ms)
variable {tg iter : Expr}
theorem g_seq (h : Snd X W e m) : SndI X W tg e .seq [m] := ⟨i_seq h⟩
theorem g_rng1 (O : Okc X W) (h : Snd X W e m) (hg : Gl X "range" := by rfl) (hs : starEach [e] X.env = [(false, eval e X.env)] := by rfl) : SndI X W tg (.Call (.Name "range" p) [e] [] pos) .rng1 [m] := ⟨i_rng1 (.cons h hs .nil) hg O.blt.range hs⟩
theorem g_rng2 (O : Okc X W) (ha : Snd X W a ma) (hb : Snd X W b mb) (hg : Gl X "range" := by rfl) (hs : starEach [a, b] X.env = [(false, eval a X.env), (false, eval b X.env)] := by rfl) (hs2 : starEach [b] X.env = [(false, eval b X.env)] := by rfl) : SndI X W tg (.Call (.Name "range" p) [a, b] [] pos) .rng2 [ma, mb] :=
  ⟨i_rng2 (.cons ha (by rw [hs, hs2]) (.cons hb hs2 .nil)) hg O.blt.range hs hs2⟩
theorem g_zip (O : Okc X W) {elts : List Expr} {kk : Nat} {tpos : Pos} (ha : Snd X W a ma) (hb : Snd X W b mb) (hg : Gl X "zip" := by rfl) (hs : starEach [a, b] X.env = (false, eval a X.env) :: starEach [b] X.env := by rfl) (hs2 : starEach [b] X.env = [(false, eval b X.env)] := by rfl) (hpl : (backTo pos (starEach [b] X.env)).any (·.1) = false := by rfl) :
    SndI X W (.Tuple elts kk tpos) (.Call (.Name "zip" p) [a, b] [] pos) .zip [ma, mb] := ⟨i_zip (.cons ha hs (.cons hb hs2 .nil)) hg O.blt.zip hs hpl⟩
theorem g_enum (O : Okc X W) {elts : List Expr} {kk : Nat} {tpos : Pos} (h : Snd X W e m) (hg : Gl X "enumerate" := by rfl) (hs : starEach [e] X.env = [(false, eval e X.env)] := by rfl) :
    SndI X W (.Tuple elts kk tpos) (.Call (.Name "enumerate" p) [e] [] pos) .enum [m] := ⟨i_enum (.cons h hs .nil) hg O.blt.enumerate hs⟩
theorem g_comp {elt : Expr} {ifs : List Expr} {scope : Scope} (own : List (Str × Nat)) {ik : IK} {ms mifs : List ME} {t : Tg} (O : Okc X W) (hi : SndI X W tg iter ik ms)
    (hg : ∀ (s : Shared) (H : Hp) (C : Addr) (cl : List (Str × Addr)) (fp : List Addr), SndT (X.blk s H scope (compEnvC scope cl C X.env) fp) tg t)
    (ht : ∀ (s : Shared) (H : Hp) (C : Addr) (cl : List (Str × Addr)) (fp : List Addr), Okc (X.blk s H scope (compEnvC scope cl C X.env) fp) W0 → SndIf (X.blk s H scope (compEnvC scope cl C X.env) fp) ifs mifs)
    (he : ∀ (s : Shared) (H : Hp) (C : Addr) (cl : List (Str × Addr)) (fp : List Addr), Okc (X.blk s H scope (compEnvC scope cl C X.env) fp) W0 → Snd (X.blk s H scope (compEnvC scope cl C X.env) fp) W0 elt m)
    (ho : ∀ i ∈ tgIdx t, i ∈ own.map (·.2) := by decide) (ok : blkC X.N X.env.scope scope own = true := by rfl) (hs : ∀ x, foldedSetIterable iter X.env x = pure x := by intro _; rfl) :
    SndF X W (.ListComp elt [⟨tg, iter, ifs, 0⟩] scope pos) (.comp m t ik ms mifs (own.map (·.2))) :=
  ⟨PE.mono (pe_lc O.calm O.nd hi.pi (blkOk_by ok) (fun s H C cl fp => (hg s H C cl fp).pg) (fun s H C cl fp => (ht s H C cl fp (O.blk s H scope _ fp)).pt) (fun s H C cl fp => (he s H C cl fp (O.blk s H scope _ fp)).pe) hs) fun σ H Q q => lc_wish ho q⟩
theorem g_lcS {y : Str} {py spos : Pos} {elt : Expr} {ifs : List Expr} {scope : Scope} (own : List (Str × Nat)) {ik : IK} {ms mifs : List ME} {t : Tg} (O : Okc X W) (hi : SndI X W tg iter ik ms)
    (hg : ∀ (s : Shared) (H : Hp) (C : Addr) (cl : List (Str × Addr)) (fp : List Addr), SndT (X.blk s H scope (compEnvC scope cl C X.env) fp) tg t)
    (ht : ∀ (s : Shared) (H : Hp) (C : Addr) (cl : List (Str × Addr)) (fp : List Addr), Okc (X.blk s H scope (compEnvC scope cl C X.env) fp) W0 → SndIf (X.blk s H scope (compEnvC scope cl C X.env) fp) ifs mifs)
    (he : ∀ (s : Shared) (H : Hp) (C : Addr) (cl : List (Str × Addr)) (fp : List Addr), Okc (X.blk s H scope (compEnvC scope cl C X.env) fp) W0 → Snd (X.blk s H scope (compEnvC scope cl C X.env) fp) W0 elt m)
    (ho : ∀ i ∈ tgIdx t, i ∈ own.map (·.2) := by decide) (ok : blkC X.N X.env.scope scope own = true := by rfl) (hs : ∀ x, foldedSetIterable iter X.env x = pure x := by intro _; rfl)
    (hy : X.N[i]? = some y := by rfl) (hyl : X.env.scope.names.lookup y = some .local := by rfl) (hk : X.env.scope.kind = .function := by rfl) (hl : (py.line == pos.line) = true := by rfl)
    (ha : (scope.names.any fun (n, k) => n == y && (k == .local || k == .cell)) = false := by rfl) :
    SndLc X W (.Assign [.Name y py] (.ListComp elt [⟨tg, iter, ifs, 0⟩] scope pos) spos) i (.comp m t ik ms mifs (own.map (·.2))) :=
  ⟨_, ps_setLc O.calm O.nd hy hyl (sw_true hk hyl hl ha) hi.pi (blkOk_by ok) (fun s H C cl fp => (hg s H C cl fp).pg) (fun s H C cl fp => (ht s H C cl fp (O.blk s H scope _ fp)).pt) (fun s H C cl fp => (he s H C cl fp (O.blk s H scope _ fp)).pe) hs, fun σ H Q q => lc_wish ho q⟩
/-! calls -/
theorem g_call {f : FnE} {es : List Expr} {ms : List ME} (O : Okc X W) (F : FnAt X x f) (ha : SndA X W f.ks (e :: es) ms) (hfr : f.fresh = false := by rfl) (hg : Gl X x := by rfl) (hdb : (x == ("__debug__" : Str)) = false := by decide) (he : starEach (e :: es) X.env = (false, eval e X.env) :: starEach es X.env := by rfl) (hpl : (backTo pos (starEach es X.env)).any (·.1) = false := by rfl) :
    Snd X W (.Call (.Name x p) (e :: es) [] pos) (.call f ms) := s_call hfr O.tk F ha hg hdb he hpl
theorem g_callF {f : FnE} {es : List Expr} {ms : List ME} (O : Okc X W) (F : FnAt X x f) (ha : SndA X W f.ks (e :: es) ms) (hfr : f.fresh = true := by rfl) (hg : Gl X x := by rfl) (hdb : (x == ("__debug__" : Str)) = false := by decide) (he : starEach (e :: es) X.env = (false, eval e X.env) :: starEach es X.env := by rfl) (hpl : (backTo pos (starEach es X.env)).any (·.1) = false := by rfl) :
    SndF X W (.Call (.Name x p) (e :: es) [] pos) (.call f ms) := s_callF hfr O.tk F ha hg hdb he hpl
theorem g_ai {ks : List PK} {es : List Expr} {ms : List ME} (h : Snd X W e m) (t : SndA X W ks es ms) (hs : starEach (e :: es) X.env = (false, eval e X.env) :: starEach es X.env := by rfl) : SndA X W (.im :: ks) (e :: es) (m :: ms) := sa_cons (sa_im h) t hs
theorem g_ar {kk : PK} {ks : List PK} {es : List Expr} {ms : List ME} (h : Snd X W e (.var i)) (t : SndA X W ks es ms) (hk : kk ≠ .im := by decide) (hs : starEach (e :: es) X.env = (false, eval e X.env) :: starEach es X.env := by rfl) : SndA X W (kk :: ks) (e :: es) (.var i :: ms) := sa_cons (sa_ref hk h) t hs
/-! statements -/
theorem g_asg {t : Tg} (h : Snd X W e m) (hg : SndT X tg t) (hs : swapsWithSole [tg] e pos.line X.env = pure false := by rfl) (hw : swappedStores [tg] e X.env = pure none := by rfl) (h1 : (assignEach [tg] X.env).map (·.2) = [assign tg X.env] := by rfl) : SndS X W fr n (.Assign [tg] e pos) (.asg t m) := ss_asg h hg.pg hs hw h1
theorem g_asgF (h : SndF X W e m) (hg : SndT X tg (.nm i)) (hs : swapsWithSole [tg] e pos.line X.env = pure false := by rfl) (hw : swappedStores [tg] e X.env = pure none := by rfl) (h1 : (assignEach [tg] X.env).map (·.2) = [assign tg X.env] := by rfl) : SndS X W fr n (.Assign [tg] e pos) (.asgF i m) := ss_asgF h hg.pg hs hw h1
theorem g_exp (h : Snd X W e m) (hs : swapsWith e none pos.line X.env = pure false := by rfl) : SndS X W fr n (.Expr e pos) (.exp m) := ss_exp h hs
theorem g_for {t : Tg} {ik : IK} {ms : List ME} {sb : List Stmt} {mb : List MS} (O : Okc X W) (hp : PassesOwn (model X.prog X.w) X.A X.env X.xe) (hi : SndI X W tg iter ik ms) (hg : SndT X tg t) (hb : SndB X W fr n sb mb) (hs : ∀ x, foldedSetIterable iter X.env x = pure x := by intro _; rfl) :
    SndS X W fr n (.For tg iter sb [] pos) (.for t ik ms mb) := ss_for hp O.calm hi.pi hg.pg hb hs
theorem g_app {o : Expr} {apos cpos : Pos} (ho : Snd X W o (.var i)) (h : Snd X W e m)
    (hb : attributeBase o "append" X.env (eval o X.env) = eval o X.env := by rfl)
    (hfew : ((backTo cpos (starEach (e :: []) X.env)).all (fun x => !x.1) && (backToKw cpos (keywordEach [] X.env)).all (fun x => x.1.isSome)
      && decide ((e :: []).length + ([] : List Keyword).length + (if ([] : List Keyword).isEmpty then 0 else 1) < 30)) = true := by rfl)
    (hline : (apos.endLine == cpos.line) = true := by rfl) (hs : starEach (e :: []) X.env = (false, eval e X.env) :: starEach [] X.env := by rfl) (hplain : (backTo cpos (starEach [] X.env)).any (·.1) = false := by rfl)
    (hsw : swapsWith (.Call (.Attribute o "append" apos) [e] [] cpos) none pos.line X.env = pure false := by rfl) : SndS X W fr n (.Expr (.Call (.Attribute o "append" apos) [e] [] cpos) pos) (.app i m) := ss_app ho h hb hfew hline hs hplain hsw
theorem g_setI {o y : Expr} {mk : ME} (ho : Snd X W o (.var i)) (hk : Snd X W y mk) (h : Snd X W e m)
    (ha : ∀ v, assign (.Subscript o y p3) X.env v = (do
      let ov ← holding [v] (eval o X.env)
      let iv ← holding [v, ov] (eval y X.env)
      standAt p3
      holding [v, ov, iv] (setItem ov iv v)
      release [v, ov, iv] []) := by intro _; rfl)
    (hs : swapsWithSole [.Subscript o y p3] e pos.line X.env = pure false := by rfl) (hw : swappedStores [.Subscript o y p3] e X.env = pure none := by rfl) (h1 : (assignEach [.Subscript o y p3] X.env).map (·.2) = [assign (.Subscript o y p3) X.env] := by rfl) :
    SndS X W fr n (.Assign [.Subscript o y p3] e pos) (.setI i mk m) := ss_setI ho hk h ha hs hw h1
theorem g_rai {nm : String} {msg : Str} (O : Okc X W) (h : ExcAt X (Str.ofString nm)) (hg : Gl X (Str.ofString nm) := by rfl) (hdb : ((Str.ofString nm) == ("__debug__" : Str)) = false := by decide) :
    SndS X W fr n (.Raise (some (.Call (.Name (Str.ofString nm) p) [.Constant (.str msg) j p2] [] pos)) none pos2) (.rai nm) := ss_rai O.calm O.tk h hg hdb
end
end NV
namespace NV
open PySem PySem.Spec PyProof.Rows L2
/-- the module's facts -/
structure Bas (K : PySem.W.Frag) (mg : Str → Option Value) : Prop where
  blt : Blt mg
  mach : ∀ P w, MachOk ⟨P, w, K, mg⟩
  cls : ∀ P w, ClsOk ⟨P, w, K, mg⟩
structure ExcG (K : PySem.W.Frag) (mg : Str → Option Value) (n : Str) : Prop where
  ex : ∃ (C : Addr) (B newId initId : String) (bmB : List Value), ExcBaseFacts B newId initId bmB ∧ PySem.W.excIn K C bmB newId = true ∧ mg n = some (.ref C) ∧ PySem.W.keepIn K (.ref C) = true ∧
    PySem.W.subIn K (.ref C) (.type "BaseException") = some true ∧ PySem.W.typeIn K (.ref C) = some (.type "type")
theorem ExcG.at {X : Cx} {n : Str} (h : ExcG X.K X.mg n) : ExcAt X n := ⟨h.ex⟩
section
variable {P : Program} {w : World} {K : PySem.W.Frag} {mg : Str → Option Value} {base : Heap}
theorem okF {N : List Str} {qual : Str} {sc : Scope} {f : Addr} {cd : Value} {A : Around} {outer : List Env} {s : Shared} {H : Hp} {E : XK} {k : Nat} (B : Bas K mg) (hN : N.Nodup) (hr : Room k (A.deeper (envOfC qual sc s.heap.objs.size f cd))) :
    Okc (cxF P w K mg base N qual sc f cd A outer s H E) (fun cls d _ H => E cls d H) :=
  ⟨by have := hr.un; show (A.deeper (envOfC qual sc s.heap.objs.size f cd)).units + 65 < cLine; omega, takesF, B.blt, B.mach P w, B.cls P w, rfl, hN⟩
/-- a def of the text, whole -/
theorem fn_g {x : Str} {st : Stmt} {f : Addr} {fd : FuncData} {N ps : List Str} {k n : Nat} {ks : List PK} {fr : Bool} {ms : List MS} (B : Bas K mg) (F : L2.Fun K x x st f fd) (hm : mg x = some (.ref f)) (hb : Binds K fd ps []) (S : FnScope N ps (defScope st)) (hps : ks.length = ps.length)
    (b : ∀ (cdv : Value) (A : Around) (outer : List Env) (s : Shared) (H : Hp) (E : XK), Room k (A.deeper (envOfC x (defScope st) s.heap.objs.size f cdv)) → Okc (cxF P w K mg base N x (defScope st) f cdv A outer s H E) (fun cls d _ H => E cls d H) →
      SndB (cxF P w K mg base N x (defScope st) f cdv A outer s H E) (fun cls d _ H => E cls d H) fr n (defBody st) ms) : FnG P w K mg base (k + 1) x ⟨ks, fr, runF ks N.length fr n ms⟩ :=
  ⟨f, fd, ps, hm, fn_ok F S hps (fun ds _ => .inr rfl) fun cdv A outer s H E hr => b cdv A outer s H E hr (okF B S.nd hr), F.kp, hb⟩
end
end NV

/-! NV.T: list.count; an exception that is handled. -/
namespace NV
open PySem PySem.Spec PyProof.Rows L2

/-! ### list.count -/
def rCountD (K : PySem.W.Frag) : V → List V → Hp → VK → Prop := fun x xs H Q => ∃ (a : Addr) (y : V) (d : PyData) (ds : List PyData), x = V.ref a ∧ xs = [y] ∧ Dp K H (V.ref a) (.list ds) ∧ Dp K H y d ∧
  SeqAt.shaped (.list ds) = true ∧ SeqAt.shaped d = true ∧ Q (.int ((ds.countP fun z => PyData.eqv z d : Nat))) H
theorem mt_countD {X : Cx} (hu : X.A.units + 65 < cLine) : MtR X "list.count" (rCountD X.K) := by
  intro pins s σ H x xs v us Q I rx rxs h
  obtain ⟨a, y, d, ds, rfl, rfl, hl, hy, sl, sd, q⟩ := h
  cases rx
  cases rxs with
  | cons ry rt =>
    rename_i uy ut
    cases rt
    obtain ⟨bs, r1⟩ := Dp.reads I d y uy hy ry
    have hxs : PyData.canLayAll0 ds = true := SeqAt.canLay_of_shaped sl
    have hroom : X.A.units + 1 + min (PyData.depthAll ds) d.depth < cLine := room_in_shaped sd hu
    cases hl with
    | lst hs ha =>
      obtain ⟨its, rv, ⟨⟨cls, dd, data, sls⟩, n, ho, hc, hdn, hdt⟩, hlen⟩ := I.list hs
      simp only at hc hdt
      subst hc hdt
      obtain ⟨as, h4⟩ := Dp.readsAll I ds _ its ha rv
      have hmap : its.map (SeqAt.readOf s.heap) = ds := SeqAt.readsAll_map ds its as hxs h4
      refine call_meets PySem.F.slot_list_count ⟨_, ho, rfl⟩ PySem.F.entry_list_count (PySem.F.args_list_count_2 _ _)
        (SeqAt.list_countAt a its.toArray n dd sls uy (fun u => PyData.eqv (SeqAt.readOf s.heap u) d)) ⟨ho, SeqAt.items_eqAt (vs := its.toArray) h4 r1 hxs (SeqAt.canLay_of_shaped sd) hroom, ?_⟩
      have e : its.toArray.toList.countP (fun u => PyData.eqv (SeqAt.readOf s.heap u) d) = ds.countP fun z => PyData.eqv z d := by
        rw [← hmap, List.countP_map]
        rfl
      rw [e]
      exact ⟨.int _, H, I.tok _, ⟨_, rfl⟩, q⟩
theorem py_count : ∀ {l : List D} {x : D}, D.depL l ≤ 60 → x.dep ≤ 60 → ((pyL l).countP fun z => PyData.eqv z (py x)) = l.countP fun y => eqD y x
  | [], x, _, _ => rfl
  | y :: l, x, h, hx => by
    have h : max y.dep (D.depL l) ≤ 60 := by simpa [D.depL] using h
    simp only [pyL, List.countP_cons]
    rw [py_eqv y x (by omega) (by omega), py_count (by omega) hx]
section
variable {X : Cx} {W : WX} {e o te : Expr} {m mo mx : ME} {pos p apos cpos : Pos}
theorem s_cnt (hu : X.A.units + 65 < cLine) (ho : Snd X W o mo) (hx : Snd X W e mx) (hbase : attributeBase o "count" X.env (eval o X.env) = eval o X.env)
    (hfew : ((backTo cpos (starEach (e :: []) X.env)).all (fun x => !x.1) && (backToKw cpos (keywordEach [] X.env)).all (fun x => x.1.isSome)
      && decide ((e :: []).length + ([] : List Keyword).length + (if ([] : List Keyword).isEmpty then 0 else 1) < 30)) = true)
    (hline : (apos.endLine == cpos.line) = true) (hs : starEach (e :: []) X.env = (false, eval e X.env) :: starEach [] X.env) (hplain : (backTo cpos (starEach [] X.env)).any (·.1) = false) :
    Snd X W (.Call (.Attribute o "count" apos) [e] [] cpos) (.cnt mo mx) := by
  refine Snd.of (PE.mono (pe_bm PySem.F.plainAttrs_list PySem.F.slot_list_count PySem.F.type_list_count (mt_countD hu) ho.pp (pa_cons hx.pp pa_nil hs) hbase hfew hline hs hplain) fun σ H Q ⟨F, ρ, Hf, r, p⟩ => ?_) (fun i z => nomatch z) (fun _ => rfl)
  refine step (dnS := dP (ctx X) mo) (f := fun y => match fin mo y.1 y.2 with
    | some (.lst _) => (pre mx (ev mx) y.2).bind fun z => match fin mo y.1 z.2, fin mx z.1 z.2 with
      | some (.lst l), some d => if d.dep ≤ 60 ∧ D.depL l ≤ 60 then .ok (NV.D.int (l.countP fun u => eqD u d : Nat), z.2) else .stuck
      | _, _ => .stuck
    | _ => .stuck) r p fun o1 ρ1 v H1 Hf1 r1 s1 dn1 p1 => ?_
  dsimp only at p1
  cases q1 : fin mo o1 ρ1 with
  | none => rw [q1] at p1; exact p1.elim
  | some d1 =>
    rw [q1] at p1
    cases d1 with
    | lst l1 =>
      dsimp only at p1
      obtain ⟨a, vs, rfl, h1, h2⟩ := (show Top (ctx X) Hf1 H1 (.lst l1) v from top_fin r1 (Same.refl _) dn1 q1)
      refine ⟨.inl ⟨rfl, vs, SqL.of h1⟩, ?_⟩
      refine step (dnS := dP (ctx X) mx) (f := fun z => match fin mo o1 z.2, fin mx z.1 z.2 with
        | some (.lst l), some d => if d.dep ≤ 60 ∧ D.depL l ≤ 60 then .ok (NV.D.int (l.countP fun u => eqD u d : Nat), z.2) else .stuck
        | _, _ => .stuck) r1 p1 fun o2 ρ2 x H2 Hf2 r2 s2 dn2 p2 => ?_
      dsimp only at p2
      split at p2
      · rename_i l d e1 e2
        split at p2
        · rename_i hz
          have t1 := top_fin r2 s2 dn1 e1
          have t2 := top_fin r2 (Same.refl _) dn2 e2
          obtain ⟨w1, w2⟩ := top_dp r2 (d := .lst l) (by simp only [D.dep]; omega) t1
          obtain ⟨w3, w4⟩ := top_dp r2 (d := d) (by omega) t2
          refine ⟨a, x, py d, pyL l, rfl, rfl, w1, w3, w2, w4, ?_⟩
          rw [py_count hz.2 hz.1]
          exact p2 _ H2 Hf2 r2 (Same.refl _) rfl
        · exact p2.elim
      · exact p2.elim
    | _ => exact p1.elim
/-! ### isinstance of the exception that is handled -/
theorem call_isP {a D : Addr} {oe : Obj} (hp : (a, oe) ∈ X.pn) (C : ExcC X.K D) (hz : Zc (.ref D) none oe) (hf : ∃ vs, oe.data = .fields vs) : CallR X (.builtin "isinstance") (rIsE X.K D a) := by
  intro pins s σ H xs us Q I r h
  obtain ⟨c, cv, b, rfl, hcv, e, q⟩ := h
  cases r with
  | cons rx rr =>
    cases rr with
    | cons rt rr =>
      cases rr
      cases rx
      have ec := hcv _ rt
      subst ec
      obtain ⟨hget, _⟩ := I.pin (a, oe) (List.mem_append_left _ hp)
      obtain ⟨vs, hv⟩ := hf
      have J : PySem.W.InstAt s.heap a oe D none := by
        obtain ⟨oc, od, oda, osl⟩ := oe
        obtain ⟨h1, h2⟩ := hz
        dsimp only at h1 h2 hv
        subst h1 h2 hv
        exact ⟨hget, rfl, rfl, trivial⟩
      exact PySem.W.kia_one (PySem.W.handS_kitx_exc C.hg C.hk C.hs C.hd C.ha C.hn C.ht C.hm) I.kIn J e (fun z => nomatch z) fun tk => ⟨.bl b, H, I.kept (t' := tk) fun _ _ z => z, rfl, q⟩
theorem s_isx {a D : Addr} {oe : Obj} {cv : V} {cu : Value} {b : Bool} (hp : (a, oe) ∈ X.pn) (C : ExcC X.K D) (hz : Zc (.ref D) none oe) (hf : ∃ vs, oe.data = .fields vs) (h : Snd X W e m) (ht : PE X te (tC cv)) (hc : ClsV cv cu) (hk : PySem.W.kitOne X.K (.ref D) cu = some b)
    (hg : Gl X "isinstance") (hm : X.mg "isinstance" = none) (he : starEach [e, te] X.env = [(false, eval e X.env), (false, eval te X.env)]) (he2 : starEach [te] X.env = [(false, eval te X.env)]) :
    Snd X W (.Call (.Name "isinstance" p) [e, te] [] pos) (.isx m fun i => if i = a then some b else none) := by
  have pa : PA X [e, te] (tCons (tv (ctx X) W (ev m)) (tCons (tC cv) tNil)) := pa_cons h.pe (pa_cons ht pa_nil (by rw [he2]; rfl)) (by rw [he, he2])
  refine Snd.of (PE.mono (pe_callB (call_isP hp C hz hf) hg hm boot_isinstance pa (by decide) (by decide) (by rw [he, he2]) (by rw [he2]; rfl)) fun σ H Q ⟨F, ρ, Hf, r, p⟩ => ?_) (fun i z => nomatch z) (fun _ => rfl)
  refine step (dnS := dE (ctx X)) (f := fun x => match x.1 with
    | .adr i => match (if i = a then some b else none) with
      | some b => .ok (NV.D.bl b, x.2)
      | none => .stuck
    | _ => .stuck) r p fun d ρ1 v H1 Hf1 r1 s1 dn1 p1 => ?_
  cases d with
  | adr i =>
    dsimp only at p1
    by_cases hi : i = a
    · subst hi
      rw [if_pos rfl] at p1
      have dn1 : v = .ref i := dn1
      subst dn1
      exact ⟨cv, cu, b, rfl, fun u ru => hc.eq ru, hk, p1 _ H1 Hf1 r1 (Same.refl _) rfl⟩
    · rw [if_neg hi] at p1; exact p1.elim
  | _ => exact p1.elim
end
end NV

/-! NV.U: a def called where an exception is handled; try .. except NestError as e: return .. -/
namespace NV
open PySem PySem.Spec PyProof.Rows L2 L2H

/-- as FnOk, where p is handled -/
structure FnP (P : Program) (w : World) (K : PySem.W.Frag) (mg : Str → Option Value) (base : Heap) (k : Nat) (f : Addr) (fd : FuncData) (ps : List Str) (p : Addr × Obj) (sp : Sp) : Prop where
  len : ∀ vs H Q E, sp vs H Q E → vs.length = ps.length
  run : ∀ (A : Around) (outer : List Env) (s : Shared) (H : Hp) (args : Args) (us : List Value) (vs : List V) (Q : VK) (E : XK), RoomH k A → Hot1 A p → PinOk outer H s p → Env0 P w K mg base A outer s H → BindsTo s fd args (ps.zip us) → Vals vs us → sp vs H Q E →
    codeAny (model P w) A (.call (.ref f) args) (CR (L2N.CX P w) outer P w H s Q E) s
abbrev cxP (P : Program) (w : World) (K : PySem.W.Frag) (mg : Str → Option Value) (base : Heap) (N : List Str) (qual : Str) (sc : Scope) (f : Addr) (cd : Value) (A : Around) (outer : List Env) (s : Shared) (H : Hp) (E : XK) (p : Addr × Obj) : Cx := cxH (L2N.CX P w) P w K mg base N qual sc f cd A outer s H E p
section
variable {P : Program} {w : World} {K : PySem.W.Frag} {mg : Str → Option Value} {base : Heap}
theorem fn_okP {x qual : Str} {st : Stmt} {f : Addr} {fd : FuncData} {N ps : List Str} {k n : Nat} {fe : FnE} {ms : List MS} {p : Addr × Obj} (F : L2.Fun K x qual st f fd) (S : FnScope N ps (defScope st)) (hps : fe.ks.length = ps.length)
    (hF : ∀ ds, ds.length = ps.length → fe.F ds = .stuck ∨ runF fe.ks N.length fe.fresh n ms ds = fe.F ds)
    (hb : ∀ (cdv : Value) (A : Around) (outer : List Env) (s : Shared) (H : Hp) (E : XK), RoomH k (A.deeper (envOfC qual (defScope st) s.heap.objs.size f cdv)) →
      SndB (cxP P w K mg base N qual (defScope st) f cdv A outer s H E p) (fun cls d _ H => E cls d H) fe.fresh n (defBody st) ms) : FnP P w K mg base (k + 1) f fd ps p (spF ⟨P, w, K, mg⟩ fe) := by
  obtain ⟨oc, od, kV, doc, pm, an, cdv, ct, osl, rfl, lk, hcd⟩ := F.ex
  have hlen : ∀ vs H Q E, spF ⟨P, w, K, mg⟩ fe vs H Q E → vs.length = ps.length := fun vs H Q E h => by
    obtain ⟨Hf, ds, _, ha, _⟩ := h
    rw [ha.len.2, hps]
  have hpl : ps.length ≤ N.length := by have := congrArg List.length S.pre; rw [List.length_take] at this; omega
  refine ⟨hlen, fun A outer s H args us vs Q E hr hot hpin e0 hb2 r hsp => ?_⟩
  have hl := hlen _ _ _ _ hsp
  have KX : K.In s.heap := e0.mod.kin.keeps fun b o e => (e0.bs b o e).1
  have lim : s.heap.NoLimit := e0.mod.nolimit.keeps fun b o e => (e0.bs b o e).1
  have hkind : ∀ y ∈ ps.zip us, (defScope st).names.lookup y.1 = some .local ∨ ((defScope st).names.lookup y.1 = some .cell ∧ ((cellsFrom (s.heap.objs.size + 1) (defScope st).names []).lookup y.1).isSome = true) := fun ⟨n, v⟩ hy => by
    rcases S.par n (List.of_mem_zip hy).1 with q | q
    · exact .inl q
    · exact .inr ⟨q, PySem.W.cellsFrom_some _ _ _ (.inl q)⟩
  refine codeAny_call_function hr.depth (KX _ _ lk) rfl S.co S.gen rfl (PySem.W.codeRec_of KX hcd) (hb2 _ _ _ _ ?_)
  refine wpAny_newFunctionEnv_cells S.kind hkind fun env he s1 x => ?_
  subst he
  refine ⟨lim.keeps x.toInCall.keep, codeAny_func ?_⟩
  have I : L2.Inv (cxP P w K mg base N qual (defScope st) f cdv A outer s H E p) [] (L2.start N vs) H s1 := inv_startH S hpin e0 hl r x
  refine wpAny_mono ((hb cdv A outer s H E (hr.deeper _)).ps.run [] s1 (L2.start N vs) H _ I (body_wish hpl hps hF hsp)) (fun fl s' hs => ?_) fun e s' hs => hs
  cases fl with
  | ret u =>
    obtain ⟨v, σ', H', J, rv, q⟩ := hs
    exact ⟨v, H', J.os, J.bare, J.base, J.hok, rv, q⟩
  | next =>
    obtain ⟨σ', H', J, q⟩ := hs
    exact ⟨.non, H', J.os, J.bare, J.base, J.hok, rfl, q⟩
  | brk =>
    obtain ⟨_, _, _, q⟩ := hs
    exact False.elim q
  | cont =>
    obtain ⟨_, _, _, q⟩ := hs
    exact False.elim q
end
section
variable {X : Cx} {W : WX} {k : Nat} {fa : Addr} {fd : FuncData} {ps : List Str} {x : Str} {q pos : Pos} {e : Expr} {es : List Expr} {p : Addr × Obj} {fe : FnE} {ms : List ME}
theorem s_callP (hfr : fe.fresh = false) (tk : L2N.Takes X W) (F : FnP X.prog X.w X.K X.mg X.base k fa fd ps p (spF (ctx X) fe)) (hr : RoomH k X.A) (hot : Hot1 X.A p) (hp : p ∈ X.pn) (hg : Gl X x) (hm : X.mg x = some (.ref fa)) (hk : PySem.W.keepIn X.K (.ref fa) = true) (hb : Binds X.K fd ps [])
    (ha : SndA X W fe.ks (e :: es) ms) (hdb : (x == ("__debug__" : Str)) = false) (he : starEach (e :: es) X.env = (false, eval e X.env) :: starEach es X.env) (hpl : (backTo pos (starEach es X.env)).any (·.1) = false) : Snd X W (.Call (.Name x q) (e :: es) [] pos) (.call fe ms) := by
  have pe : PE X (.Call (.Name x q) (e :: es) [] pos) (tCallS (spF (ctx X) fe) (L2.WE W) (tvG (ctx X) W (dA (ctx X) fe.ks ms) (evArgs fe.ks ms))) := by
    refine ⟨fun pins s σ H Q I h => ?_⟩
    refine wpAny_Call_Name_kw (ld_glob I hg hm ?_ hdb)
    refine PySem.W.callWith_K (h₀ := X.base) I.ok.mod.kin hk (thn (ha.pa.run pos pins s σ H _ I h) fun us s1 ⟨vs, H1, I1, r, q⟩ => ⟨I1.kIn, ?_⟩) he hpl
    have hl : us.length = ps.length := by rw [← r.length]; exact F.len _ _ _ _ q
    have b := hb s1 us I1.kIn (by rw [List.append_nil]; exact hl)
    rw [List.append_nil] at b
    have P1 := I1.pin p (List.mem_append_left _ hp)
    have hpin : PinOk X.stack H1 s1 p := ⟨P1.1, P1.2.1, fun hm => (List.mem_cons.mp (I1.stkSub p.1 hm)).elim P1.2.2.1 P1.2.2.2.1, P1.2.2.2.2⟩
    refine wpAny_call (codeAny_mono (F.run X.A X.stack s1 H1 ⟨us, []⟩ us vs Q _ hr hot hpin I1.env0 b r q) fun r s' hq => ?_)
    cases r with
    | error e => exact L2N.passAt tk σ pins H1 s1 e s' I1 hq
    | ok fl =>
      cases fl with
      | ret u => exact I1.after hq
      | next => exact False.elim hq
      | brk => exact False.elim hq
      | cont => exact False.elim hq
  exact Snd.of (PE.mono pe fun σ H Q q => call_wish hfr q) (fun i z => nomatch z) (fun _ => rfl)
end

/-! ### _law_alone -/
def isOf (j k : Nat) : Bool := decide (k = j) || decide (7 ≤ k)
def isT (a j k : Nat) : Nat → Option Bool := fun i => if i = a then some (isOf j k) else none
def mAlone (a j : Nat) : List MS :=
  [.asg (.nm 2) (.lst [.isx (.var 0) (isT a j 0), .isx (.var 0) (isT a j 1), .isx (.var 0) (isT a j 2), .isx (.var 0) (isT a j 3)]),
   .asg (.nm 2) (.bin .add (.var 2) (.lst [.isx (.var 0) (isT a j 4), .isx (.var 0) (isT a j 5), .isx (.var 0) (isT a j 6)])),
   .ret (.and [.cmp .eq (.cnt (.var 2) (.cst (.bl true))) (.cst (.int 1)), .idx (.var 2) (.var 1), .isx (.var 0) (isT a j 7), .isx (.var 0) (isT a j 8)])]
def fAlone (a j : Nat) : FnE := ⟨[.im, .im], false, fun ds => match ds with
  | [.adr i, .int z] => if i = a ∧ 0 ≤ z ∧ z < 7 then .ok (.bl (decide (z = j)), []) else .stuck
  | _ => .stuck⟩
theorem alone_run (a j : Nat) (hj : j < 7) (ds : List D) : (fAlone a j).F ds = .stuck ∨ runF [.im, .im] 3 false 0 (mAlone a j) ds = (fAlone a j).F ds := by
  unfold fAlone
  dsimp only
  split
  · rename_i i z
    split
    · rename_i h
      obtain ⟨rfl, h0, h7⟩ := h
      right
      have hz : z = 0 ∨ z = 1 ∨ z = 2 ∨ z = 3 ∨ z = 4 ∨ z = 5 ∨ z = 6 := by omega
      have hj' : j = 0 ∨ j = 1 ∨ j = 2 ∨ j = 3 ∨ j = 4 ∨ j = 5 ∨ j = 6 := by omega
      have ht : ∀ k, isT i j k i = some (isOf j k) := fun k => by unfold isT; rw [if_pos rfl]
      rcases hj' with rfl | rfl | rfl | rfl | rfl | rfl | rfl <;> rcases hz with rfl | rfl | rfl | rfl | rfl | rfl | rfl <;>
        simp [runF, rho0, entOf, mAlone, evSs, evS, evs, ev, evVar, ht, isOf, setT, setE, pre, fin, peek, binD, addD, szl, evAnd, D.dep, D.depL, eqD, cmpD, eqOk, idxD, ixD, opt, Out.bind, ioOuts]
    · exact .inl rfl
  · exact .inl rfl
end NV

/-! NV.V: try: .. except NestError as e: return .. -/
namespace NV
open PySem PySem.Spec PyProof.Rows L2 L2H

/-- the refusals' classes -/
structure Exs (K : PySem.W.Frag) (mg : Str → Option Value) (C : Nat → Addr) (CN : Addr) : Prop where
  at_ : ∀ j, j < 7 → mg (Str.ofString (EXN.getD j "")) = some (.ref (C j))
  nest : mg "NestError" = some (.ref CN)
  val : mg "ValueError" = none
  ec : ∀ j, j < 7 → ExcC K (C j)
  catch_ : ∀ j, j < 7 → PySem.W.exmOne K (.ref (C j)) (.ref CN) = some true
  kit : ∀ j, j < 7 → ∀ k, k < 7 → PySem.W.kitOne K (.ref (C j)) (.ref (C k)) = some (decide (k = j))
  kitN : ∀ j, j < 7 → PySem.W.kitOne K (.ref (C j)) (.ref CN) = some true
  kitV : ∀ j, j < 7 → PySem.W.kitOne K (.ref (C j)) (.type "ValueError") = some true
def mkP (i a j : Nat) : D ⊕ ME → ME
  | .inl d => .cst d
  | .inr k => .call (fAlone a j) [.var i, k]
def mkSu (i a j : Nat) : Bool → List (D ⊕ ME) → ME
  | true, ps => .tup (ps.map (mkP i a j))
  | false, [p] => mkP i a j p
  | false, _ => .cst .non
theorem part_ev {i a j : Nat} {ρ : Rho} {p : D ⊕ ME} {d : D} (hi : i < ρ.length) (h : suD ρ i j p = some d) : ev (mkP i a j p) (ρ.set i (.im (.adr a))) = .ok (d, ρ.set i (.im (.adr a))) := by
  cases p with
  | inl d' =>
    cases h
    rfl
  | inr k =>
    have h : (if isVar i k then none else match kVal ρ k with
      | some z => if 0 ≤ z ∧ z < 7 then some (NV.D.bl (decide (z = j))) else none
      | none => none) = some d := h
    by_cases hv : isVar i k = true
    · rw [if_pos hv] at h; cases h
    · rw [if_neg hv] at h
      cases q : kVal ρ k with
      | none => rw [q] at h; cases h
      | some z =>
        rw [q] at h
        dsimp only at h
        split at h
        · rename_i hz
          cases h
          have e0 : evVar (ρ.set i (.im (.adr a))) i = .ok (.adr a, ρ.set i (.im (.adr a))) := by
            unfold evVar
            rw [List.getElem?_set_self hi]
          have ek : ev k (ρ.set i (.im (.adr a))) = .ok (.int z, ρ.set i (.im (.adr a))) := by
            cases k with
            | cst d0 =>
              cases d0 <;> cases q
              rfl
            | var v =>
              have hne : i ≠ v := fun e => hv (by simp [isVar, e])
              have q : (match ρ[v]? with | some (.im d) => (match d with | .int z => some z | _ => none) | _ => none) = some z := q
              show evVar _ v = _
              unfold evVar
              rw [List.getElem?_set_ne hne]
              split at q
              · rename_i d0 e
                cases d0 <;> cases q
                rw [e]
              · cases q
            | _ => cases q
          show ((evArgs [.im, .im] [.var i, k] _).bind _) = _
          have e1 : evArgs [.im, .im] [.var i, k] (ρ.set i (.im (.adr a))) = .ok ([some (.adr a), some (.int z)], ρ.set i (.im (.adr a))) := by
            show (((evVar _ i).bind fun r => .ok (some r.1, r.2)).bind fun x => (((ev k x.2).bind fun r => .ok (some r.1, r.2)).bind fun x => (Out.ok ([], x.2)).bind fun y => .ok (x.1 :: y.1, y.2)).bind fun y => .ok (x.1 :: y.1, y.2)) = _
            rw [e0]
            simp only [Out.bind_ok]
            rw [ek]
            rfl
          rw [e1]
          simp [fAlone, refNd, finArgs, finArg, outArgs, hz]
        · cases h
theorem parts_ev {i a j : Nat} {ρ : Rho} (hi : i < ρ.length) : ∀ {ps : List (D ⊕ ME)} {ds : List D}, suDs ρ i j ps = some ds → evs (ps.map (mkP i a j)) (ρ.set i (.im (.adr a))) = .ok (ds, ρ.set i (.im (.adr a)))
  | [], ds, h => by
    cases h
    rfl
  | p :: ps, ds, h => by
    unfold suDs at h
    cases q : suD ρ i j p with
    | none => rw [q] at h; cases h
    | some d =>
      cases q2 : suDs ρ i j ps with
      | none => rw [q, q2] at h; cases h
      | some ds' =>
        rw [q, q2] at h
        cases h
        show ((ev (mkP i a j p) _).bind fun x => (evs (ps.map (mkP i a j)) x.2).bind fun y => .ok (x.1 :: y.1, y.2)) = _
        rw [part_ev hi q]
        simp only [Out.bind_ok]
        rw [parts_ev hi q2]
        rfl
theorem su_ev {i a j : Nat} {tu : Bool} {ρ : Rho} {ps : List (D ⊕ ME)} {d : D} (hi : i < ρ.length) (h : (suDs ρ i j ps).bind (suRet tu) = some d) : ev (mkSu i a j tu ps) (ρ.set i (.im (.adr a))) = .ok (d, ρ.set i (.im (.adr a))) := by
  cases q : suDs ρ i j ps with
  | none => rw [q] at h; cases h
  | some ds =>
    rw [q] at h
    have h : suRet tu ds = some d := h
    cases tu with
    | true =>
      cases h
      show ((evs (ps.map (mkP i a j)) _).bind fun x => .ok (NV.D.tup x.1, x.2)) = _
      rw [parts_ev hi q]
      rfl
    | false =>
      match ps, ds, h, q with
      | [p], [d'], h, q =>
        cases h
        unfold suDs at q
        cases q1 : suD ρ i j p with
        | none => rw [q1] at q; cases q
        | some d1 =>
          rw [q1] at q
          cases q
          exact part_ev hi q1
      | [], [d'], h, q => cases q
      | p :: p2 :: ps, [d'], h, q =>
        exfalso
        unfold suDs at q
        cases q1 : suD ρ i j p with
        | none => rw [q1] at q; cases q
        | some d1 =>
          cases q2 : suDs ρ i j (p2 :: ps) with
          | none => rw [q1, q2] at q; cases q
          | some ds2 =>
            rw [q1, q2] at q
            cases q
            unfold suDs at q2
            cases q3 : suD ρ i j p2 with
            | none => rw [q3] at q2; cases q2
            | some _ =>
              cases q4 : suDs ρ i j ps with
              | none => rw [q3, q4] at q2; cases q2
              | some _ => rw [q3, q4] at q2; cases q2
      | _, [], h, _ => cases h
      | _, _ :: _ :: _, h, _ => cases h
section
variable {X : Cx} {W : WX} {n : Nat} {C : Nat → Addr} {CN : Addr} {i : Nat} {x n' : Str} {body : List Stmt} {mb : List MS} {e : Expr} {np pos pos' rpos : Pos} {tu : Bool} {ps : List (D ⊕ ME)}
theorem exc_at {c : String} {j : Nat} (h : excIx c = some j) : j < 7 ∧ EXN.getD j "" = c := by
  unfold excIx at h
  obtain ⟨h1, h2, _⟩ := List.findIdx?_eq_some_iff_getElem.mp h
  refine ⟨h1, ?_⟩
  rw [List.getD_eq_getElem?_getD, List.getElem?_eq_getElem h1]
  simpa using h2
theorem ss_try (hs : X.stack = X.env :: X.outer) (hf : X.env.frame = some X.env.locals) (hN : X.N.Nodup) (tk : L2N.Takes X W) (hi : X.N[i]? = some n') (hln : X.env.kindOf n' = some .local) (hc : Names X x (.ref CN)) (EX : Exs X.K X.mg C CN)
    (hb : ∀ (W' : WX) (pn : List (Addr × Obj)) (xe : Value → Shared → Prop), L2N.Takes (X.tr pn xe) W' → PassesOwn (model X.prog X.w) X.A X.env xe → SndB (X.tr pn xe) W' false n body mb)
    (hsu : ∀ (a : Addr) (oe : Obj) (j : Nat) (pn : List (Addr × Obj)), j < 7 → L2N.Zn (.ref (C j)) none oe → (∃ vs, oe.data = .fields vs) → Snd (X.suite a ((a, oe) :: pn)) W0 e (mkSu i a j tu ps)) :
    SndS X W false n (.Try body [.ExceptHandler (some (.Name x np)) (some n') [.Return (some e) rpos] pos'] [] [] pos) (.tryA mb i tu ps) := by
  have h := L2N.ps_try_as (X := X) (x := x) (n := n') (c := .ref CN) (i := i) (body := body) (suite := []) (b₀ := .Return (some e) rpos) (np := np) (pos := pos) (pos' := pos') (Wout := W)
    (tb := fun W' => tvS (ctx X) W' false (evSs n mb)) (ts := fun a cls d => fun D σ H => ∃ j, j < 7 ∧ cls = .ref (C j) ∧ d = none ∧ tvS (ctx X) W0 false (evSs n [.ret (mkSu i a j tu ps)]) D σ H)
    hs hf hN hi hln hc tk (fun W' pn xe t po => (hb W' pn xe t po).ps) (fun a oe cls d pn hz hv => ?_)
  rotate_left
  · refine ⟨fun pins s σ H D I q => ?_⟩
    obtain ⟨j, hj, rfl, rfl, q⟩ := q
    exact (ss_cons (ss_ret (hsu a oe j pn hj hz hv)) ss_nil : SndB (X.suite a ((a, oe) :: pn)) W0 false n [.Return (some e) rpos] [.ret (mkSu i a j tu ps)]).ps.run pins s σ H D I q
  refine ⟨PS.mono h fun D σ H ⟨F, ρ, Hf, r, p⟩ => ?_⟩
  have p : PostS (ctx X) F W false D Hf (match evSs n mb ρ with
    | .exc c ρ' => trySuite i tu ps c ρ'
    | o => o) := p
  refine ⟨F, ρ, Hf, r, ?_⟩
  cases q : evSs n mb ρ with
  | stuck => rw [q] at p; exact p
  | ok y =>
    obtain ⟨f, ρ'⟩ := y
    rw [q] at p
    cases f with
    | nx => exact p
    | ret d => exact p
  | exc c ρ' =>
    rw [q] at p
    have p : PostS (ctx X) F W false D Hf (match excIx c, setE ρ' i .un with
      | some j, some ρ2 => match (suDs ρ' i j ps).bind (suRet tu) with
        | some d => .ok (.ret d, ρ2)
        | none => .stuck
      | _, _ => .stuck) := p
    intro σ' H' Hf' C' r' s' m'
    cases q1 : excIx c with
    | none => rw [q1] at p; exact p.elim
    | some j =>
      cases q2 : setE ρ' i .un with
      | none => rw [q1, q2] at p; exact p.elim
      | some ρ2 =>
        rw [q1, q2] at p
        dsimp only at p
        cases q3 : (suDs ρ' i j ps).bind (suRet tu) with
        | none => rw [q3] at p; exact p.elim
        | some d =>
          rw [q3] at p
          obtain ⟨hj, hcj⟩ := exc_at q1
          have hC : C' = C j := by
            have := EX.at_ j hj
            rw [hcj] at this
            have m' : X.mg (Str.ofString c) = some (.ref C') := m'
            rw [m'] at this
            cases this
            rfl
          subst hC
          refine ⟨true, EX.catch_ j hj, fun _ a ha => ⟨j, hj, rfl, rfl, ?_⟩, fun z => by cases z⟩
          obtain ⟨e2, hil, en, hen, hk⟩ := setE_some q2
          have hset : setE ρ' i (.im (.adr a)) = some (ρ'.set i (.im (.adr a))) := by
            unfold setE
            rw [hen]
            rcases hk with rfl | ⟨_, rfl⟩ | ⟨_, rfl⟩ <;> rfl
          have r2 := r'.setIm (v := .ref a) hset (show Den (ctx X) Hf' (.adr a) (.ref a) from rfl)
          refine ⟨F, _, Hf', r2, ?_⟩
          have e3 : evSs n [.ret (mkSu i a j tu ps)] (ρ'.set i (.im (.adr a))) = .ok (.ret d, ρ'.set i (.im (.adr a))) := by
            show ((((ev (mkSu i a j tu ps) _).bind fun x => .ok (.ret x.1, x.2)) : ResS).bind fun r => match r.1 with | .nx => .ok (Fl.nx, r.2) | .ret v => .ok (Fl.ret v, r.2)) = _
            rw [su_ev hil q3]
            rfl
          rw [e3]
          intro σ2 v H2 Hf2 r3 s3 dn
          have hset3 : setE (ρ'.set i (.im (.adr a))) i .un = some ρ2 := by
            unfold setE
            rw [List.getElem?_set_self hil]
            rw [e2]
            simp
          exact p (σ2.set i none) v H2 Hf2 (r3.setUn hset3) (s'.trans s3) dn
end
end NV

/-! NV.W: .. for the generator: exceptions. -/
namespace NV
open PySem PySem.Spec PyProof.Rows L2 L2H

theorem takes0N {X : Cx} : L2N.Takes X W0 := fun u s' ⟨_, _, _, _, _, _, _, _, _, _, _, _, _, _, _, _, w⟩ => w.elim
theorem Okc.tr {X : Cx} {W W' : WX} (o : Okc X W) {pn : List (Addr × Obj)} {xe : Value → Shared → Prop} (tk : L2N.Takes (X.tr pn xe) W') : Okc (X.tr pn xe) W' := ⟨o.hu, tk, o.blt, o.mach, o.cls, o.calm, o.nd⟩
structure AlG (P : Program) (w : World) (K : PySem.W.Frag) (mg : Str → Option Value) (base : Heap) (C : Nat → Addr) : Prop where
  ex : ∃ (fa : Addr) (fd : FuncData), mg "_law_alone" = some (.ref fa) ∧ PySem.W.keepIn K (.ref fa) = true ∧ Binds K fd ["_law_e", "_law_own"] [] ∧
    ∀ (j : Nat) (p : Addr × Obj), j < 7 → L2N.Zn (.ref (C j)) none p.2 → (∃ vs, p.2.data = .fields vs) → FnP P w K mg base 1 fa fd ["_law_e", "_law_own"] p (spF ⟨P, w, K, mg⟩ (fAlone p.1 j))
section
variable {X : Cx} {W : WX} {C : Nat → Addr} {CN : Addr} {e1 e2 e : Expr} {m1 m2 m : ME} {q pos p2 : Pos} {j k : Nat} {p : Addr × Obj} {nm : Str}
theorem g_alone {a : Addr} {oe : Obj} {pn : List (Addr × Obj)} {k : Nat} (AL : AlG X.prog X.w X.K X.mg X.base C) (hr : Room k X.A) (hk1 : 1 ≤ k) (hj : j < 7) (hz : L2N.Zn (.ref (C j)) none oe) (hf : ∃ vs, oe.data = .fields vs)
    (h1 : Snd (X.suite a ((a, oe) :: pn)) W0 e1 m1) (h2 : Snd (X.suite a ((a, oe) :: pn)) W0 e2 m2) (hg : Gl (X.suite a ((a, oe) :: pn)) "_law_alone" := by rfl)
    (he : starEach [e1, e2] X.env = (false, eval e1 X.env) :: starEach [e2] X.env := by rfl) (he2 : starEach [e2] X.env = (false, eval e2 X.env) :: starEach [] X.env := by rfl) (hpl : (backTo pos (starEach [e2] X.env)).any (·.1) = false := by rfl) :
    Snd (X.suite a ((a, oe) :: pn)) W0 (.Call (.Name "_law_alone" q) [e1, e2] [] pos) (.call (fAlone a j) [m1, m2]) := by
  obtain ⟨fa, fd, hm, hk, hb, hF⟩ := AL.ex
  obtain ⟨vs, hv⟩ := hf
  have hot : Hot1 (X.suite a ((a, oe) :: pn)).A (a, oe) := ⟨rfl, vs, hv, hz.2.2 vs hv⟩
  have rH : RoomH 1 (X.suite a ((a, oe) :: pn)).A := ⟨(roomH_of (hr.mono hk1)).dp, (roomH_of (hr.mono hk1)).un⟩
  exact s_callP (X := X.suite a ((a, oe) :: pn)) rfl takes0N (hF j (a, oe) hj hz ⟨vs, hv⟩) rH hot List.mem_cons_self hg hm hk hb (sa_cons (sa_im h1) (sa_cons (sa_im h2) sa_nil he2) he) (by decide) he hpl
theorem g_isx (EX : Exs X.K X.mg C CN) (hj : j < 7) (k : Nat) (hk : k < 7) (hp : p ∈ X.pn) (hz : L2N.Zn (.ref (C j)) none p.2) (hf : ∃ vs, p.2.data = .fields vs) (hm : X.mg "isinstance" = none) (h : Snd X W e m) (hn : nm = Str.ofString (EXN.getD k "") := by rfl) (hl : Gl X nm := by rfl) (hd : (nm == ("__debug__" : Str)) = false := by decide) (hg : Gl X "isinstance" := by rfl)
    (he : starEach [e, .Name nm p2] X.env = [(false, eval e X.env), (false, eval (.Name nm p2) X.env)] := by rfl) (he2 : starEach [.Name nm p2] X.env = [(false, eval (.Name nm p2) X.env)] := by rfl) :
    Snd X W (.Call (.Name "isinstance" q) [e, .Name nm p2] [] pos) (.isx m (isT p.1 j k)) := by
  have hmg : X.mg nm = some (.ref (C k)) := by rw [hn]; exact EX.at_ k hk
  have e0 : isOf j k = decide (k = j) := by
    unfold isOf
    have : ¬ 7 ≤ k := by omega
    simp [this]
  exact s_isx (a := p.1) (oe := p.2) hp (EX.ec j hj) hz.zc hf h (pe_glob (v := .ref (C k)) hl hmg rfl hd) (.own (C k)) (by rw [e0]; exact EX.kit j hj k hk) hg hm he he2
theorem g_isxN (EX : Exs X.K X.mg C CN) (hj : j < 7) (hp : p ∈ X.pn) (hz : L2N.Zn (.ref (C j)) none p.2) (hf : ∃ vs, p.2.data = .fields vs) (hm : X.mg "isinstance" = none) (h : Snd X W e m) (hl : Gl X "NestError" := by rfl) (hg : Gl X "isinstance" := by rfl)
    (he : starEach [e, .Name "NestError" p2] X.env = [(false, eval e X.env), (false, eval (.Name "NestError" p2) X.env)] := by rfl) (he2 : starEach [.Name "NestError" p2] X.env = [(false, eval (.Name "NestError" p2) X.env)] := by rfl) :
    Snd X W (.Call (.Name "isinstance" q) [e, .Name "NestError" p2] [] pos) (.isx m (isT p.1 j 7)) := by
  have e0 : isOf j 7 = true := by simp [isOf]
  exact s_isx (a := p.1) (oe := p.2) hp (EX.ec j hj) hz.zc hf h (pe_glob (v := .ref CN) hl EX.nest rfl (by decide)) (.own CN) (by rw [e0]; exact EX.kitN j hj) hg hm he he2
theorem g_isxV (EX : Exs X.K X.mg C CN) (hj : j < 7) (hp : p ∈ X.pn) (hz : L2N.Zn (.ref (C j)) none p.2) (hf : ∃ vs, p.2.data = .fields vs) (hm : X.mg "isinstance" = none) (h : Snd X W e m) (hl : Gl X "ValueError" := by rfl) (hg : Gl X "isinstance" := by rfl)
    (he : starEach [e, .Name "ValueError" p2] X.env = [(false, eval e X.env), (false, eval (.Name "ValueError" p2) X.env)] := by rfl) (he2 : starEach [.Name "ValueError" p2] X.env = [(false, eval (.Name "ValueError" p2) X.env)] := by rfl) :
    Snd X W (.Call (.Name "isinstance" q) [e, .Name "ValueError" p2] [] pos) (.isx m (isT p.1 j 8)) := by
  have e0 : isOf j 8 = true := by simp [isOf]
  exact s_isx (a := p.1) (oe := p.2) hp (EX.ec j hj) hz.zc hf h (pe_bltn (v := .ty "ValueError") (u := .type "ValueError") hl EX.val (by decide +kernel) rfl (by decide) (by decide)) (.ty "ValueError") (by rw [e0]; exact EX.kitV j hj) hg hm he he2
theorem g_cnt {o : Expr} {mo : ME} {apos cpos : Pos} (hu : X.A.units + 65 < cLine) (ho : Snd X W o mo) (hx : Snd X W e m) (hbase : attributeBase o "count" X.env (eval o X.env) = eval o X.env := by rfl)
    (hfew : ((backTo cpos (starEach (e :: []) X.env)).all (fun x => !x.1) && (backToKw cpos (keywordEach [] X.env)).all (fun x => x.1.isSome)
      && decide ((e :: []).length + ([] : List Keyword).length + (if ([] : List Keyword).isEmpty then 0 else 1) < 30)) = true := by rfl)
    (hline : (apos.endLine == cpos.line) = true := by rfl) (hs : starEach (e :: []) X.env = (false, eval e X.env) :: starEach [] X.env := by rfl) (hplain : (backTo cpos (starEach [] X.env)).any (·.1) = false := by rfl) :
    Snd X W (.Call (.Attribute o "count" apos) [e] [] cpos) (.cnt mo m) := s_cnt hu ho hx hbase hfew hline hs hplain
end
section
variable {P : Program} {w : World} {K : PySem.W.Frag} {mg : Str → Option Value} {base : Heap}
theorem takesP {N : List Str} {qual : Str} {sc : Scope} {f : Addr} {cd : Value} {A : Around} {outer : List Env} {s : Shared} {H : Hp} {E : XK} {p : Addr × Obj} : L2N.Takes (cxP P w K mg base N qual sc f cd A outer s H E p) (fun cls d _ H => E cls d H) :=
  L2N.takes_of (E₁ := fun e' s'' => L2N.CX P w outer H s E e' s'') rfl rfl rfl rfl
end
end NV

/-! NV.X: the end: what the top has written. -/
namespace NV
open PySem PySem.Spec PyProof.Rows L2 L2H

def spTop (K : PySem.W.Frag) : Sp := fun vs H Q _ => ∃ (a : Addr) (ns : List Int), vs = [.ref a] ∧ SqL K H a (ns.map V.int) ∧ ns.length ≤ 63 ∧ ∀ H', Q (.bl true) H'
section
variable {P : Program} {w : World} {K : PySem.W.Frag} {mg : Str → Option Value} {base : Heap}
theorem fn_gL {x : Str} {st : Stmt} {f : Addr} {fd : FuncData} {N ps : List Str} {k n : Nat} {ks : List PK} {fr : Bool} {ms : List MS} (B : Bas K mg) (F : L2.Fun K x x st f fd) (S : FnScope N ps (defScope st)) (hps : ks.length = ps.length)
    (b : ∀ (cdv : Value) (A : Around) (outer : List Env) (s : Shared) (H : Hp) (E : XK), Room k (A.deeper (envOfC x (defScope st) s.heap.objs.size f cdv)) → Okc (cxF P w K mg base N x (defScope st) f cdv A outer s H E) (fun cls d _ H => E cls d H) →
      SndB (cxF P w K mg base N x (defScope st) f cdv A outer s H E) (fun cls d _ H => E cls d H) fr n (defBody st) ms) : FnOk P w K mg base (L2N.CX P w) (k + 1) f fd ps (spF ⟨P, w, K, mg⟩ ⟨ks, fr, runF ks N.length fr n ms⟩) :=
  fn_ok F S hps (fun ds _ => .inr rfl) fun cdv A outer s H E hr => b cdv A outer s H E hr (okF B S.nd hr)
theorem top_ok {k : Nat} {f : Addr} {fd : FuncData} {ps : List Str} {fe : FnE} (hk : fe.ks = [.im]) (hf : fe.fresh = false) (F : FnOk P w K mg base (L2N.CX P w) k f fd ps (spF ⟨P, w, K, mg⟩ fe)) (h : ∀ ns : List Int, ns.length ≤ 63 → fe.F [.scr ns] = .ok (.bl true, [])) :
    FnOk P w K mg base (L2N.CX P w) k f fd ps (spTop K) := by
  have go : ∀ vs H Q E, spTop K vs H Q E → spF ⟨P, w, K, mg⟩ fe vs H Q E := fun vs H Q E ⟨a, ns, e, hS, hl, q⟩ => by
    subst e
    refine ⟨H, [.scr ns], Same.refl _, ?_, ?_, ?_⟩
    · rw [hk]
      exact ⟨_, _, _, _, rfl, rfl, ⟨a, rfl, hS⟩, rfl, rfl⟩
    · intro i j a k k' h1 h2 _ _ _ _
      rw [hk] at h1
      match i, h1 with
      | 0, h1 => cases h1; exact absurd rfl h2
      | i + 1, h1 => simp at h1
    · rw [h ns hl]
      intro v H' Hf' aft ho hv
      rw [if_neg (by rw [hf]; simp)] at hv
      have hv : v = .bl true := hv
      subst hv
      exact q H'
  exact ⟨fun vs H Q E h => F.len _ _ _ _ (go _ _ _ _ h), fun A outer s H args us vs Q E hr e0 hb r h => F.run A outer s H args us vs Q E hr e0 hb r (go _ _ _ _ h)⟩
theorem bas_noM (b : Blt mg) (h : mg "Machine" = none) : Bas K mg := by
  refine ⟨b, fun P w => .inl h, fun P w n C hn hm => ?_⟩
  have hn' : n = "Machine" := by
    by_cases e : n = "Machine"
    · exact e
    · exact absurd (by unfold flds; rw [if_neg e]) hn
  subst hn'
  have hm : mg (Str.ofString "Machine") = some (.ref C) := hm
  rw [show mg (Str.ofString "Machine") = none from h] at hm
  cases hm
/-- a class of refusals, as the top has written it -/
structure ExcW (K : PySem.W.Frag) (mg : Str → Option Value) (n : Str) (C : Addr) : Prop where
  at_ : mg n = some (.ref C)
  xF : PySem.W.excIn K C [.type "ValueError", .type "Exception", .type "BaseException", .type "object"] "ValueError.__new__" = true
  kF : PySem.W.keepIn K (.ref C) = true
  bF : PySem.W.subIn K (.ref C) (.type "BaseException") = some true
  tF : PySem.W.typeIn K (.ref C) = some (.type "type")
  iF : PySem.W.isClsIn K C = true
  hg : PySem.W.findIn K (.ref C) "__getattribute__" = some (some (.builtin "BaseException.__getattribute__"))
  hk : PySem.W.findIn K (.ref C) "__getattr__" = some none
  hd : PySem.W.hasDictIn K C = true
  ha : PySem.W.findIn K (.ref C) "__class__" = some (some (.builtin "object.__class__"))
  hm : PySem.W.mroIn K C (.type "object") = some true
  vE : PySem.W.subIn K (.ref C) (.type "ValueError") = some true
theorem ExcW.exc {n : Str} {C : Addr} (h : ExcW K mg n C) : ExcG K mg n := ⟨C, _, _, _, _, PySem.F.excBase_ValueError, h.xF, h.at_, h.kF, h.bF, h.tF⟩
theorem ExcW.ec {n : Str} {C : Addr} (h : ExcW K mg n C) (hn : PySem.W.specialIn K (.builtin "object.__class__") "__get__" = some (some (.builtin "getset_descriptor.__get__"))) (ht : PySem.W.takesIn K (.builtin "object.__class__") = some true) : ExcC K C := ⟨h.hg, h.hk, h.bF, h.hd, h.ha, hn, ht, h.hm⟩
theorem ExcW.cls {n : Str} {C : Addr} (h : ExcW K mg n C) {t : Value} : PySem.W.kitCls K t (.ref C) = PySem.W.subIn K t (.ref C) := by
  have h2 : (PySem.W.clsIn K C).isSome = true := h.iF
  show (if ((PySem.W.clsIn K C).isSome && PySem.W.typeIn K (.ref C) == some (.type "type")) = true then PySem.W.subIn K t (.ref C) else none) = _
  rw [h2, h.tF]
  rfl
theorem kit_of {n : Str} {C D : Addr} {b : Bool} (W : ExcW K mg n C) (h : PySem.W.subIn K (.ref D) (.ref C) = some b) (hs : PySem.W.subIn K (.ref D) (.ref D) = some true) : PySem.W.kitOne K (.ref D) (.ref C) = some b := by
  unfold PySem.W.kitOne
  by_cases e : D = C
  · subst e
    rw [h] at hs
    rw [hs]
    simp
  · have : ((Value.ref D == Value.ref C) = true) = False := by simp [e]
    rw [if_neg (by rw [this]; exact id), W.cls, h]
theorem exm_of {n : Str} {C D : Addr} (W : ExcW K mg n C) (h : PySem.W.subIn K (.ref D) (.ref C) = some true) : PySem.W.exmOne K (.ref D) (.ref C) = some true := by
  unfold PySem.W.exmOne
  rw [W.bF, if_pos (by rfl), W.cls, h]
def cAt (c0 c1 c2 c3 c4 c5 c6 : Addr) : Nat → Addr := fun j => [c0, c1, c2, c3, c4, c5, c6].getD j 0
theorem exs_mk {c0 c1 c2 c3 c4 c5 c6 CN : Addr}
    (W0 : ExcW K mg (Str.ofString "BadSigns") c0)
    (W1 : ExcW K mg (Str.ofString "BadWord") c1)
    (W2 : ExcW K mg (Str.ofString "BadMachine") c2)
    (W3 : ExcW K mg (Str.ofString "TooMany") c3)
    (W4 : ExcW K mg (Str.ofString "NotPlain") c4)
    (W5 : ExcW K mg (Str.ofString "Unlike") c5)
    (W6 : ExcW K mg (Str.ofString "NoNote") c6)
    (WN : ExcW K mg (Str.ofString "NestError") CN)
    (s00 : PySem.W.subIn K (.ref c0) (.ref c0) = some true) (s01 : PySem.W.subIn K (.ref c0) (.ref c1) = some false) (s02 : PySem.W.subIn K (.ref c0) (.ref c2) = some false) (s03 : PySem.W.subIn K (.ref c0) (.ref c3) = some false) (s04 : PySem.W.subIn K (.ref c0) (.ref c4) = some false) (s05 : PySem.W.subIn K (.ref c0) (.ref c5) = some false) (s06 : PySem.W.subIn K (.ref c0) (.ref c6) = some false)
    (s10 : PySem.W.subIn K (.ref c1) (.ref c0) = some false) (s11 : PySem.W.subIn K (.ref c1) (.ref c1) = some true) (s12 : PySem.W.subIn K (.ref c1) (.ref c2) = some false) (s13 : PySem.W.subIn K (.ref c1) (.ref c3) = some false) (s14 : PySem.W.subIn K (.ref c1) (.ref c4) = some false) (s15 : PySem.W.subIn K (.ref c1) (.ref c5) = some false) (s16 : PySem.W.subIn K (.ref c1) (.ref c6) = some false)
    (s20 : PySem.W.subIn K (.ref c2) (.ref c0) = some false) (s21 : PySem.W.subIn K (.ref c2) (.ref c1) = some false) (s22 : PySem.W.subIn K (.ref c2) (.ref c2) = some true) (s23 : PySem.W.subIn K (.ref c2) (.ref c3) = some false) (s24 : PySem.W.subIn K (.ref c2) (.ref c4) = some false) (s25 : PySem.W.subIn K (.ref c2) (.ref c5) = some false) (s26 : PySem.W.subIn K (.ref c2) (.ref c6) = some false)
    (s30 : PySem.W.subIn K (.ref c3) (.ref c0) = some false) (s31 : PySem.W.subIn K (.ref c3) (.ref c1) = some false) (s32 : PySem.W.subIn K (.ref c3) (.ref c2) = some false) (s33 : PySem.W.subIn K (.ref c3) (.ref c3) = some true) (s34 : PySem.W.subIn K (.ref c3) (.ref c4) = some false) (s35 : PySem.W.subIn K (.ref c3) (.ref c5) = some false) (s36 : PySem.W.subIn K (.ref c3) (.ref c6) = some false)
    (s40 : PySem.W.subIn K (.ref c4) (.ref c0) = some false) (s41 : PySem.W.subIn K (.ref c4) (.ref c1) = some false) (s42 : PySem.W.subIn K (.ref c4) (.ref c2) = some false) (s43 : PySem.W.subIn K (.ref c4) (.ref c3) = some false) (s44 : PySem.W.subIn K (.ref c4) (.ref c4) = some true) (s45 : PySem.W.subIn K (.ref c4) (.ref c5) = some false) (s46 : PySem.W.subIn K (.ref c4) (.ref c6) = some false)
    (s50 : PySem.W.subIn K (.ref c5) (.ref c0) = some false) (s51 : PySem.W.subIn K (.ref c5) (.ref c1) = some false) (s52 : PySem.W.subIn K (.ref c5) (.ref c2) = some false) (s53 : PySem.W.subIn K (.ref c5) (.ref c3) = some false) (s54 : PySem.W.subIn K (.ref c5) (.ref c4) = some false) (s55 : PySem.W.subIn K (.ref c5) (.ref c5) = some true) (s56 : PySem.W.subIn K (.ref c5) (.ref c6) = some false)
    (s60 : PySem.W.subIn K (.ref c6) (.ref c0) = some false) (s61 : PySem.W.subIn K (.ref c6) (.ref c1) = some false) (s62 : PySem.W.subIn K (.ref c6) (.ref c2) = some false) (s63 : PySem.W.subIn K (.ref c6) (.ref c3) = some false) (s64 : PySem.W.subIn K (.ref c6) (.ref c4) = some false) (s65 : PySem.W.subIn K (.ref c6) (.ref c5) = some false) (s66 : PySem.W.subIn K (.ref c6) (.ref c6) = some true)
    (n0 : PySem.W.subIn K (.ref c0) (.ref CN) = some true) (n1 : PySem.W.subIn K (.ref c1) (.ref CN) = some true) (n2 : PySem.W.subIn K (.ref c2) (.ref CN) = some true) (n3 : PySem.W.subIn K (.ref c3) (.ref CN) = some true) (n4 : PySem.W.subIn K (.ref c4) (.ref CN) = some true) (n5 : PySem.W.subIn K (.ref c5) (.ref CN) = some true) (n6 : PySem.W.subIn K (.ref c6) (.ref CN) = some true)
    (hn : PySem.W.specialIn K (.builtin "object.__class__") "__get__" = some (some (.builtin "getset_descriptor.__get__"))) (ht : PySem.W.takesIn K (.builtin "object.__class__") = some true) (zV : mg "ValueError" = none) : Exs K mg (cAt c0 c1 c2 c3 c4 c5 c6) CN := by
  have seven : ∀ {p : Nat → Prop}, p 0 → p 1 → p 2 → p 3 → p 4 → p 5 → p 6 → ∀ j, j < 7 → p j := fun {p} h0 h1 h2 h3 h4 h5 h6 j hj => by
    have : j = 0 ∨ j = 1 ∨ j = 2 ∨ j = 3 ∨ j = 4 ∨ j = 5 ∨ j = 6 := by omega
    rcases this with rfl | rfl | rfl | rfl | rfl | rfl | rfl <;> assumption
  refine ⟨seven W0.at_ W1.at_ W2.at_ W3.at_ W4.at_ W5.at_ W6.at_, WN.at_, zV, seven (W0.ec hn ht) (W1.ec hn ht) (W2.ec hn ht) (W3.ec hn ht) (W4.ec hn ht) (W5.ec hn ht) (W6.ec hn ht),
    seven (exm_of WN n0) (exm_of WN n1) (exm_of WN n2) (exm_of WN n3) (exm_of WN n4) (exm_of WN n5) (exm_of WN n6), ?_, seven (kit_of WN n0 s00) (kit_of WN n1 s11) (kit_of WN n2 s22) (kit_of WN n3 s33) (kit_of WN n4 s44) (kit_of WN n5 s55) (kit_of WN n6 s66), ?_⟩
  · exact seven (seven (kit_of W0 s00 s00) (kit_of W1 s01 s00) (kit_of W2 s02 s00) (kit_of W3 s03 s00) (kit_of W4 s04 s00) (kit_of W5 s05 s00) (kit_of W6 s06 s00)) (seven (kit_of W0 s10 s11) (kit_of W1 s11 s11) (kit_of W2 s12 s11) (kit_of W3 s13 s11) (kit_of W4 s14 s11) (kit_of W5 s15 s11) (kit_of W6 s16 s11)) (seven (kit_of W0 s20 s22) (kit_of W1 s21 s22) (kit_of W2 s22 s22) (kit_of W3 s23 s22) (kit_of W4 s24 s22) (kit_of W5 s25 s22) (kit_of W6 s26 s22)) (seven (kit_of W0 s30 s33) (kit_of W1 s31 s33) (kit_of W2 s32 s33) (kit_of W3 s33 s33) (kit_of W4 s34 s33) (kit_of W5 s35 s33) (kit_of W6 s36 s33)) (seven (kit_of W0 s40 s44) (kit_of W1 s41 s44) (kit_of W2 s42 s44) (kit_of W3 s43 s44) (kit_of W4 s44 s44) (kit_of W5 s45 s44) (kit_of W6 s46 s44)) (seven (kit_of W0 s50 s55) (kit_of W1 s51 s55) (kit_of W2 s52 s55) (kit_of W3 s53 s55) (kit_of W4 s54 s55) (kit_of W5 s55 s55) (kit_of W6 s56 s55)) (seven (kit_of W0 s60 s66) (kit_of W1 s61 s66) (kit_of W2 s62 s66) (kit_of W3 s63 s66) (kit_of W4 s64 s66) (kit_of W5 s65 s66) (kit_of W6 s66 s66))
  · have v : ∀ {n : Str} {C : Addr}, ExcW K mg n C → PySem.W.kitOne K (.ref C) (.type "ValueError") = some true := fun {n C} W => by
      show (if (Value.ref C == Value.type "ValueError") = true then some true else (if PySem.W.kitMeta "ValueError" = true then PySem.W.subIn K (.ref C) (.type "ValueError") else none)) = some true
      rw [if_neg (by simp), if_pos (by decide +kernel), W.vE]
    exact seven (v W0) (v W1) (v W2) (v W3) (v W4) (v W5) (v W6)
end
end NV

namespace NV
/-! Maths: loops of the small language. -/
theorem compLoop_flat {elt : Ev} {ifs : Rho → Out Rho (Bool × Rho)} {tg : Tg} {own : List Nat} {ρ : Rho} {f : D → List D} : ∀ {items : List D}, (∀ d ∈ items, compStep elt ifs tg own d ρ = .ok (f d, ρ)) → compLoop elt ifs tg own items ρ = .ok (items.flatMap f, ρ)
  | [], _ => rfl
  | d :: ds, h => by
    show (compStep elt ifs tg own d ρ).bind _ = _
    rw [h d List.mem_cons_self]
    simp only [Out.bind_ok]
    rw [compLoop_flat fun x hx => h x (List.mem_cons_of_mem _ hx)]
    rfl
theorem compLoop_map {elt : Ev} {ifs : Rho → Out Rho (Bool × Rho)} {tg : Tg} {own : List Nat} {ρ : Rho} {f : D → D} {items : List D} (h : ∀ d ∈ items, compStep elt ifs tg own d ρ = .ok ([f d], ρ)) : compLoop elt ifs tg own items ρ = .ok (items.map f, ρ) := by
  rw [compLoop_flat (f := fun d => [f d]) h]
  have e : ∀ l : List D, l.flatMap (fun d => [f d]) = l.map f := fun l => by
    induction l with
    | nil => rfl
    | cons x l ih => simp [List.flatMap_cons, ih]
  rw [e]
def loopE {S : Type} (g : S → D → S ⊕ D) : S → List D → S ⊕ D
  | s, [] => .inl s
  | s, d :: ds => match g s d with
    | .inl s' => loopE g s' ds
    | .inr v => .inr v
theorem for_loop {S : Type} {body : EvS} {tg : Tg} {st : S → Rho → Prop} {g : S → D → S ⊕ D} : ∀ {items : List D} {s : S} {ρ : Rho}, st s ρ →
    (∀ s ρ d, d ∈ items → st s ρ → ∃ ρ1, setT tg d ρ = some ρ1 ∧ match g s d with
      | .inl s' => ∃ ρ', body ρ1 = .ok (.nx, ρ') ∧ st s' ρ'
      | .inr v => ∃ ρ', body ρ1 = .ok (.ret v, ρ')) →
    match loopE g s items with
      | .inl s' => ∃ ρ', forLoop body tg items ρ = .ok (.nx, ρ') ∧ st s' ρ'
      | .inr v => ∃ ρ', forLoop body tg items ρ = .ok (.ret v, ρ')
  | [], s, ρ, h, _ => ⟨ρ, rfl, h⟩
  | d :: ds, s, ρ, h, k => by
    obtain ⟨ρ1, h1, h2⟩ := k s ρ d List.mem_cons_self h
    unfold loopE
    cases q : g s d with
    | inl s' =>
      rw [q] at h2
      obtain ⟨ρ', h3, h4⟩ := h2
      have ih := for_loop (items := ds) h4 fun s ρ x hx => k s ρ x (List.mem_cons_of_mem _ hx)
      have e : forLoop body tg (d :: ds) ρ = forLoop body tg ds ρ' := by
        show (match setT tg d ρ with | none => Out.stuck | some ρ1 => (body ρ1).bind fun r => match r.1 with | .nx => forLoop body tg ds r.2 | .ret v => .ok (.ret v, r.2)) = _
        rw [h1]
        dsimp only
        rw [h3]
        rfl
      dsimp only
      rw [e]
      exact ih
    | inr v =>
      rw [q] at h2
      obtain ⟨ρ', h3⟩ := h2
      refine ⟨ρ', ?_⟩
      show (match setT tg d ρ with | none => Out.stuck | some ρ1 => (body ρ1).bind fun r => match r.1 with | .nx => forLoop body tg ds r.2 | .ret v => .ok (.ret v, r.2)) = _
      rw [h1]
      dsimp only
      rw [h3]
      rfl
/-- a slot that may be set -/
def isUI : Ent → Bool
  | .un => true
  | .im _ => true
  | _ => false
@[simp] theorem isUI_un : isUI .un = true := rfl
@[simp] theorem isUI_im (d : D) : isUI (.im d) = true := rfl
theorem isUI_or {e : Ent} (h : isUI e = true) : e = .un ∨ ∃ d, e = .im d := by
  cases e with
  | un => exact .inl rfl
  | im d => exact .inr ⟨d, rfl⟩
  | _ => cases h
theorem ioOuts_noio : ∀ (ks : List PK) (ρ : Rho), ks.contains .io = false → ioOuts ks ρ = []
  | [], ρ, _ => by cases ρ <;> rfl
  | k :: ks, [], h => by cases k <;> first | rfl | (simp at h)
  | k :: ks, e :: ρ, h => by
    cases k with
    | io => simp at h
    | im =>
      have ih := ioOuts_noio ks ρ (by simpa using h)
      cases e <;> exact ih
    | br =>
      have ih := ioOuts_noio ks ρ (by simpa using h)
      cases e <;> exact ih
@[simp] theorem ioOuts1 (ρ : Rho) : ioOuts [.im] ρ = [] := ioOuts_noio _ _ rfl
@[simp] theorem ioOuts2 (ρ : Rho) : ioOuts [.im, .im] ρ = [] := ioOuts_noio _ _ rfl
@[simp] theorem ioOuts3 (ρ : Rho) : ioOuts [.im, .im, .im] ρ = [] := ioOuts_noio _ _ rfl
@[simp] theorem ioOuts4 (ρ : Rho) : ioOuts [.im, .im, .im, .im] ρ = [] := ioOuts_noio _ _ rfl
@[simp] theorem ioOuts5 (ρ : Rho) : ioOuts [.im, .im, .im, .im, .im] ρ = [] := ioOuts_noio _ _ rfl
theorem allBl_map {α : Type} (f : α → Bool) : ∀ l : List α, allBl (l.map fun x => D.bl (f x)) = some (l.map f)
  | [] => rfl
  | x :: l => by
    show (allBl (l.map fun x => D.bl (f x))).map (f x :: ·) = _
    rw [allBl_map f l]
    rfl
theorem metN_nodup {α : Type} [DecidableEq α] (l : List α) : (metN l = l.length) = l.Nodup := by
  have key : ∀ (l acc : List α), acc.Nodup → ((l.foldl metL acc).length = acc.length + l.length ↔ (acc ++ l).Nodup) := by
    intro l
    induction l with
    | nil => intro acc ha; simp [ha]
    | cons x l ih =>
      intro acc ha
      rw [List.foldl_cons]
      by_cases hx : x ∈ acc
      · have e : metL acc x = acc := by unfold metL; rw [if_pos hx]
        rw [e]
        constructor
        · intro h
          have := met_le l acc
          simp only [List.length_cons] at h
          omega
        · intro h
          exfalso
          rw [List.nodup_append] at h
          exact h.2.2 x hx x List.mem_cons_self rfl
      · have e : metL acc x = acc ++ [x] := by unfold metL; rw [if_neg hx]
        rw [e]
        have ha' : (acc ++ [x]).Nodup := by
          rw [List.nodup_append]
          exact ⟨ha, by simp, fun a h1 b h2 => by simp at h2; subst h2; exact fun z => hx (z ▸ h1)⟩
        have := ih (acc ++ [x]) ha'
        simp only [List.length_append, List.length_cons, List.length_nil, List.append_assoc, List.singleton_append] at this ⊢
        rw [← this]
        omega
  have := key l [] List.nodup_nil
  simp only [List.length_nil, Nat.zero_add, List.nil_append] at this
  exact propext this
end NV
namespace NV
theorem for_inv {body : EvS} {tg : Tg} (inv : Nat → Rho → Prop) : ∀ (items : List D) (i : Nat) (ρ : Rho), inv i ρ →
    (∀ j ρ d, items[j]? = some d → inv (i + j) ρ → ∃ ρ1 ρ', setT tg d ρ = some ρ1 ∧ body ρ1 = .ok (.nx, ρ') ∧ inv (i + j + 1) ρ') → ∃ ρ', forLoop body tg items ρ = .ok (.nx, ρ') ∧ inv (i + items.length) ρ'
  | [], i, ρ, h, _ => ⟨ρ, rfl, h⟩
  | d :: ds, i, ρ, h, k => by
    obtain ⟨ρ1, ρ', h1, h2, h3⟩ := k 0 ρ d rfl h
    obtain ⟨ρ2, h4, h5⟩ := for_inv inv ds (i + 1) ρ' h3 fun j ρ x hx hi => by
      obtain ⟨ρ3, ρ4, w1, w2, w3⟩ := k (j + 1) ρ x (by simpa using hx) (by rw [show i + (j + 1) = i + 1 + j by omega]; exact hi)
      exact ⟨ρ3, ρ4, w1, w2, by rw [show i + 1 + j + 1 = i + (j + 1) + 1 by omega]; exact w3⟩
    refine ⟨ρ2, ?_, by rw [List.length_cons, show i + (ds.length + 1) = i + 1 + ds.length by omega]; exact h5⟩
    show (match setT tg d ρ with | none => Out.stuck | some ρ1 => (body ρ1).bind fun r => match r.1 with | .nx => forLoop body tg ds r.2 | .ret v => .ok (.ret v, r.2)) = _
    rw [h1]
    dsimp only
    rw [h2]
    exact h4
end NV
namespace NV
theorem for_loopI {S : Type} {body : EvS} {tg : Tg} {st : Nat → S → Rho → Prop} {g : S → D → S ⊕ D} (N : Nat) : ∀ {items : List D} {i : Nat} {s : S} {ρ : Rho}, i + items.length ≤ N → st i s ρ →
    (∀ i s ρ d, d ∈ items → i < N → st i s ρ → ∃ ρ1, setT tg d ρ = some ρ1 ∧ match g s d with
      | .inl s' => ∃ ρ', body ρ1 = .ok (.nx, ρ') ∧ st (i + 1) s' ρ'
      | .inr v => ∃ ρ', body ρ1 = .ok (.ret v, ρ')) →
    match loopE g s items with
      | .inl s' => ∃ ρ', forLoop body tg items ρ = .ok (.nx, ρ') ∧ st (i + items.length) s' ρ'
      | .inr v => ∃ ρ', forLoop body tg items ρ = .ok (.ret v, ρ')
  | [], i, s, ρ, _, h, _ => ⟨ρ, rfl, h⟩
  | d :: ds, i, s, ρ, hN, h, k => by
    rw [List.length_cons] at hN
    obtain ⟨ρ1, h1, h2⟩ := k i s ρ d List.mem_cons_self (by omega) h
    unfold loopE
    cases q : g s d with
    | inl s' =>
      rw [q] at h2
      obtain ⟨ρ', h3, h4⟩ := h2
      have ih := for_loopI N (items := ds) (by omega) h4 fun i s ρ x hx => k i s ρ x (List.mem_cons_of_mem _ hx)
      have e : forLoop body tg (d :: ds) ρ = forLoop body tg ds ρ' := by
        show (match setT tg d ρ with | none => Out.stuck | some ρ1 => (body ρ1).bind fun r => match r.1 with | .nx => forLoop body tg ds r.2 | .ret v => .ok (.ret v, r.2)) = _
        rw [h1]
        dsimp only
        rw [h3]
        rfl
      dsimp only
      rw [e, List.length_cons, show i + (ds.length + 1) = i + 1 + ds.length by omega]
      exact ih
    | inr v =>
      rw [q] at h2
      obtain ⟨ρ', h3⟩ := h2
      refine ⟨ρ', ?_⟩
      show (match setT tg d ρ with | none => Out.stuck | some ρ1 => (body ρ1).bind fun r => match r.1 with | .nx => forLoop body tg ds r.2 | .ret v => .ok (.ret v, r.2)) = _
      rw [h1]
      dsimp only
      rw [h3]
      rfl
end NV

namespace NV
/-! Maths: the evaluator as rules for simp. -/
def entV : Ent → Option D
  | .im d => some d | .ow d => some d | .io d => some d | .br d => some d | .un => none
@[simp] theorem entV_im (d : D) : entV (.im d) = some d := rfl
@[simp] theorem entV_ow (d : D) : entV (.ow d) = some d := rfl
@[simp] theorem entV_io (d : D) : entV (.io d) = some d := rfl
@[simp] theorem entV_br (d : D) : entV (.br d) = some d := rfl
@[simp] theorem entV_un : entV .un = none := rfl
@[simp] theorem peek_eq (ρ : Rho) (i : Nat) : peek ρ i = (ρ[i]?).bind entV := by
  unfold peek
  cases ρ[i]? with
  | none => rfl
  | some e => cases e <;> rfl
@[simp] theorem pre_var (i : Nat) (e : Ev) (ρ : Rho) : pre (.var i) e ρ = match peek ρ i with | some _ => .ok (none, ρ) | none => .stuck := rfl
@[simp] theorem fin_var (i : Nat) (z : Option D) (ρ : Rho) : fin (.var i) z ρ = peek ρ i := rfl
@[simp] theorem pre_cst (d : D) (e : Ev) (ρ : Rho) : pre (ME.cst d) e ρ = (e ρ).bind fun r => .ok (some r.1, r.2) := rfl
@[simp] theorem fin_cst (d : D) (z : Option D) (ρ : Rho) : fin (ME.cst d) z ρ = z := rfl
@[simp] theorem pre_bin (o : Op) (a b : ME) (e : Ev) (ρ : Rho) : pre (ME.bin o a b) e ρ = (e ρ).bind fun r => .ok (some r.1, r.2) := rfl
@[simp] theorem fin_bin (o : Op) (a b : ME) (z : Option D) (ρ : Rho) : fin (ME.bin o a b) z ρ = z := rfl
@[simp] theorem pre_neg (a : ME) (e : Ev) (ρ : Rho) : pre (ME.neg a) e ρ = (e ρ).bind fun r => .ok (some r.1, r.2) := rfl
@[simp] theorem fin_neg (a : ME) (z : Option D) (ρ : Rho) : fin (ME.neg a) z ρ = z := rfl
@[simp] theorem pre_cmp (o : Cm) (a b : ME) (e : Ev) (ρ : Rho) : pre (ME.cmp o a b) e ρ = (e ρ).bind fun r => .ok (some r.1, r.2) := rfl
@[simp] theorem fin_cmp (o : Cm) (a b : ME) (z : Option D) (ρ : Rho) : fin (ME.cmp o a b) z ρ = z := rfl
@[simp] theorem pre_chn (o o' : Cm) (a b c : ME) (e : Ev) (ρ : Rho) : pre (ME.chn o o' a b c) e ρ = (e ρ).bind fun r => .ok (some r.1, r.2) := rfl
@[simp] theorem fin_chn (o o' : Cm) (a b c : ME) (z : Option D) (ρ : Rho) : fin (ME.chn o o' a b c) z ρ = z := rfl
@[simp] theorem pre_and (l : List ME) (e : Ev) (ρ : Rho) : pre (ME.and l) e ρ = (e ρ).bind fun r => .ok (some r.1, r.2) := rfl
@[simp] theorem fin_and (l : List ME) (z : Option D) (ρ : Rho) : fin (ME.and l) z ρ = z := rfl
@[simp] theorem pre_or (l : List ME) (e : Ev) (ρ : Rho) : pre (ME.or l) e ρ = (e ρ).bind fun r => .ok (some r.1, r.2) := rfl
@[simp] theorem fin_or (l : List ME) (z : Option D) (ρ : Rho) : fin (ME.or l) z ρ = z := rfl
@[simp] theorem pre_not (a : ME) (e : Ev) (ρ : Rho) : pre (ME.not a) e ρ = (e ρ).bind fun r => .ok (some r.1, r.2) := rfl
@[simp] theorem fin_not (a : ME) (z : Option D) (ρ : Rho) : fin (ME.not a) z ρ = z := rfl
@[simp] theorem pre_ife (c a b : ME) (e : Ev) (ρ : Rho) : pre (ME.ife c a b) e ρ = (e ρ).bind fun r => .ok (some r.1, r.2) := rfl
@[simp] theorem fin_ife (c a b : ME) (z : Option D) (ρ : Rho) : fin (ME.ife c a b) z ρ = z := rfl
@[simp] theorem pre_tup (l : List ME) (e : Ev) (ρ : Rho) : pre (ME.tup l) e ρ = (e ρ).bind fun r => .ok (some r.1, r.2) := rfl
@[simp] theorem fin_tup (l : List ME) (z : Option D) (ρ : Rho) : fin (ME.tup l) z ρ = z := rfl
@[simp] theorem pre_lst (l : List ME) (e : Ev) (ρ : Rho) : pre (ME.lst l) e ρ = (e ρ).bind fun r => .ok (some r.1, r.2) := rfl
@[simp] theorem fin_lst (l : List ME) (z : Option D) (ρ : Rho) : fin (ME.lst l) z ρ = z := rfl
@[simp] theorem pre_emp  (e : Ev) (ρ : Rho) : pre ME.emp e ρ = (e ρ).bind fun r => .ok (some r.1, r.2) := rfl
@[simp] theorem fin_emp  (z : Option D) (ρ : Rho) : fin ME.emp z ρ = z := rfl
@[simp] theorem pre_comp (elt : ME) (tg : Tg) (k : IK) (args ifs : List ME) (own : List Nat) (e : Ev) (ρ : Rho) : pre (ME.comp elt tg k args ifs own) e ρ = (e ρ).bind fun r => .ok (some r.1, r.2) := rfl
@[simp] theorem fin_comp (elt : ME) (tg : Tg) (k : IK) (args ifs : List ME) (own : List Nat) (z : Option D) (ρ : Rho) : fin (ME.comp elt tg k args ifs own) z ρ = z := rfl
@[simp] theorem pre_call (f : FnE) (args : List ME) (e : Ev) (ρ : Rho) : pre (ME.call f args) e ρ = (e ρ).bind fun r => .ok (some r.1, r.2) := rfl
@[simp] theorem fin_call (f : FnE) (args : List ME) (z : Option D) (ρ : Rho) : fin (ME.call f args) z ρ = z := rfl
@[simp] theorem pre_isi (a : ME) (t : String) (e : Ev) (ρ : Rho) : pre (ME.isi a t) e ρ = (e ρ).bind fun r => .ok (some r.1, r.2) := rfl
@[simp] theorem fin_isi (a : ME) (t : String) (z : Option D) (ρ : Rho) : fin (ME.isi a t) z ρ = z := rfl
@[simp] theorem pre_b1 (b : B1) (a : ME) (e : Ev) (ρ : Rho) : pre (ME.b1 b a) e ρ = (e ρ).bind fun r => .ok (some r.1, r.2) := rfl
@[simp] theorem fin_b1 (b : B1) (a : ME) (z : Option D) (ρ : Rho) : fin (ME.b1 b a) z ρ = z := rfl
@[simp] theorem pre_idx (a i : ME) (e : Ev) (ρ : Rho) : pre (ME.idx a i) e ρ = (e ρ).bind fun r => .ok (some r.1, r.2) := rfl
@[simp] theorem fin_idx (a i : ME) (z : Option D) (ρ : Rho) : fin (ME.idx a i) z ρ = z := rfl
@[simp] theorem pre_sl (a : ME) (lo hi : List ME) (e : Ev) (ρ : Rho) : pre (ME.sl a lo hi) e ρ = (e ρ).bind fun r => .ok (some r.1, r.2) := rfl
@[simp] theorem fin_sl (a : ME) (lo hi : List ME) (z : Option D) (ρ : Rho) : fin (ME.sl a lo hi) z ρ = z := rfl
@[simp] theorem pre_rev (a : ME) (e : Ev) (ρ : Rho) : pre (ME.rev a) e ρ = (e ρ).bind fun r => .ok (some r.1, r.2) := rfl
@[simp] theorem fin_rev (a : ME) (z : Option D) (ρ : Rho) : fin (ME.rev a) z ρ = z := rfl
@[simp] theorem pre_fld (c : String) (k : Nat) (a : ME) (e : Ev) (ρ : Rho) : pre (ME.fld c k a) e ρ = (e ρ).bind fun r => .ok (some r.1, r.2) := rfl
@[simp] theorem fin_fld (c : String) (k : Nat) (a : ME) (z : Option D) (ρ : Rho) : fin (ME.fld c k a) z ρ = z := rfl
@[simp] theorem pre_join (s a : ME) (e : Ev) (ρ : Rho) : pre (ME.join s a) e ρ = (e ρ).bind fun r => .ok (some r.1, r.2) := rfl
@[simp] theorem fin_join (s a : ME) (z : Option D) (ρ : Rho) : fin (ME.join s a) z ρ = z := rfl
@[simp] theorem pre_dsel (ks : List (List Nat)) (vs : List Int) (a : ME) (e : Ev) (ρ : Rho) : pre (ME.dsel ks vs a) e ρ = (e ρ).bind fun r => .ok (some r.1, r.2) := rfl
@[simp] theorem fin_dsel (ks : List (List Nat)) (vs : List Int) (a : ME) (z : Option D) (ρ : Rho) : fin (ME.dsel ks vs a) z ρ = z := rfl
@[simp] theorem pre_dgetc (ks : List (List Nat)) (vs : List Int) (a : ME) (x : Int) (e : Ev) (ρ : Rho) : pre (ME.dgetc ks vs a x) e ρ = (e ρ).bind fun r => .ok (some r.1, r.2) := rfl
@[simp] theorem fin_dgetc (ks : List (List Nat)) (vs : List Int) (a : ME) (x : Int) (z : Option D) (ρ : Rho) : fin (ME.dgetc ks vs a x) z ρ = z := rfl
@[simp] theorem pre_get (d k x : ME) (e : Ev) (ρ : Rho) : pre (ME.get d k x) e ρ = (e ρ).bind fun r => .ok (some r.1, r.2) := rfl
@[simp] theorem fin_get (d k x : ME) (z : Option D) (ρ : Rho) : fin (ME.get d k x) z ρ = z := rfl
@[simp] theorem pre_isx (a : ME) (t : Nat → Option Bool) (e : Ev) (ρ : Rho) : pre (ME.isx a t) e ρ = (e ρ).bind fun r => .ok (some r.1, r.2) := rfl
@[simp] theorem fin_isx (a : ME) (t : Nat → Option Bool) (z : Option D) (ρ : Rho) : fin (ME.isx a t) z ρ = z := rfl
@[simp] theorem pre_cnt (a x : ME) (e : Ev) (ρ : Rho) : pre (ME.cnt a x) e ρ = (e ρ).bind fun r => .ok (some r.1, r.2) := rfl
@[simp] theorem fin_cnt (a x : ME) (z : Option D) (ρ : Rho) : fin (ME.cnt a x) z ρ = z := rfl
@[simp] theorem evVar_eq (ρ : Rho) (i : Nat) : ev (.var i) ρ = match ρ[i]? with
  | some (.im d) => .ok (d, ρ)
  | some (.ow d) => .ok (d, ρ.set i (.im d))
  | _ => .stuck := rfl
@[simp] theorem ev_cst (d : D) (ρ : Rho) : ev (.cst d) ρ = .ok (d, ρ) := rfl
@[simp] theorem ev_bin (o : Op) (a b : ME) (ρ : Rho) : ev (.bin o a b) ρ = (pre a (ev a) ρ).bind fun x => (pre b (ev b) x.2).bind fun y => match fin a x.1 y.2, fin b y.1 y.2 with
    | some p, some q => opt (binD o p q) y.2
    | _, _ => .stuck := rfl
@[simp] theorem ev_neg (a : ME) (ρ : Rho) : ev (.neg a) ρ = (ev a ρ).bind fun x => opt (negD x.1) x.2 := rfl
@[simp] theorem ev_cmp (o : Cm) (a b : ME) (ρ : Rho) : ev (.cmp o a b) ρ = (pre a (ev a) ρ).bind fun x => (pre b (ev b) x.2).bind fun y => match fin a x.1 y.2, fin b y.1 y.2 with
    | some p, some q => opt (cmpD o p q) y.2
    | _, _ => .stuck := rfl
@[simp] theorem ev_chn (o o' : Cm) (a b c : ME) (ρ : Rho) : ev (.chn o o' a b c) ρ = (ev a ρ).bind fun x => (ev b x.2).bind fun y => match cmpD o x.1 y.1 with
    | some (.bl true) => (ev c y.2).bind fun z => opt (cmpD o' y.1 z.1) z.2
    | some (.bl false) => .ok (.bl false, y.2)
    | _ => .stuck := rfl
@[simp] theorem ev_and (l : List ME) (ρ : Rho) : ev (.and l) ρ = evAnd l ρ := rfl
@[simp] theorem ev_or (l : List ME) (ρ : Rho) : ev (.or l) ρ = evOr l ρ := rfl
@[simp] theorem evAnd_one1 (m : ME) (ρ : Rho) : evAnd [m] ρ = (ev m ρ).bind fun x => match x.1 with
    | .bl b => .ok (.bl b, x.2)
    | _ => .stuck := rfl
@[simp] theorem evAnd_two1 (m m' : ME) (ms : List ME) (ρ : Rho) : evAnd (m :: m' :: ms) ρ = (ev m ρ).bind fun x => match x.1 with
    | .bl b => if b then evAnd (m' :: ms) x.2 else .ok (.bl false, x.2)
    | _ => .stuck := rfl
@[simp] theorem evOr_one1 (m : ME) (ρ : Rho) : evOr [m] ρ = (ev m ρ).bind fun x => match x.1 with
    | .bl b => .ok (.bl b, x.2)
    | _ => .stuck := rfl
@[simp] theorem evOr_two1 (m m' : ME) (ms : List ME) (ρ : Rho) : evOr (m :: m' :: ms) ρ = (ev m ρ).bind fun x => match x.1 with
    | .bl b => if b then .ok (.bl true, x.2) else evOr (m' :: ms) x.2
    | _ => .stuck := rfl
@[simp] theorem ev_not (a : ME) (ρ : Rho) : ev (.not a) ρ = (ev a ρ).bind fun x => match x.1 with
    | .bl b => .ok (.bl (!b), x.2)
    | _ => .stuck := rfl
@[simp] theorem ev_ife (c a b : ME) (ρ : Rho) : ev (.ife c a b) ρ = (ev c ρ).bind fun x => match x.1 with
    | .bl true => ev a x.2
    | .bl false => ev b x.2
    | _ => .stuck := rfl
@[simp] theorem ev_tup (l : List ME) (ρ : Rho) : ev (.tup l) ρ = (evs l ρ).bind fun x => .ok (.tup x.1, x.2) := rfl
@[simp] theorem ev_lst (l : List ME) (ρ : Rho) : ev (.lst l) ρ = (evs l ρ).bind fun x => .ok (.lst x.1, x.2) := rfl
@[simp] theorem ev_emp (ρ : Rho) : ev .emp ρ = .ok (.dic [] [], ρ) := rfl
@[simp] theorem evs_nil (ρ : Rho) : evs [] ρ = .ok ([], ρ) := rfl
@[simp] theorem evs_cons (m : ME) (ms : List ME) (ρ : Rho) : evs (m :: ms) ρ = (ev m ρ).bind fun x => (evs ms x.2).bind fun y => .ok (x.1 :: y.1, y.2) := rfl
@[simp] theorem pres_nil (ρ : Rho) : pres [] ρ = .ok ([], ρ) := rfl
@[simp] theorem pres_cons (m : ME) (ms : List ME) (ρ : Rho) : pres (m :: ms) ρ = (pre m (ev m) ρ).bind fun x => (pres ms x.2).bind fun y => .ok (x.1 :: y.1, y.2) := rfl
@[simp] theorem finL_nil (ρ : Rho) : finL [] [] ρ = some [] := rfl
@[simp] theorem finL_cons (m : ME) (ms : List ME) (o : Option D) (os : List (Option D)) (ρ : Rho) : finL (m :: ms) (o :: os) ρ = match fin m o ρ, finL ms os ρ with
  | some d, some ds => some (d :: ds)
  | _, _ => none := rfl
/-- a comprehension whose turns are known -/
theorem ev_comp (elt : ME) (tg : Tg) (k : IK) (args ifs : List ME) (own : List Nat) (ρ : Rho) : ev (.comp elt tg k args ifs own) ρ = (pres args ρ).bind fun x => match (finL args x.1 x.2).bind (iterD k) with
    | none => .stuck
    | some items => match if items.length ≤ szl then wipeE own (lockE args x.2) else none with
      | none => .stuck
      | some ρ2 => (noexc (compLoop (ev elt) (evIfs ifs) tg own items ρ2)).bind fun y => .ok (.lst y.1, unlockE x.2 args (backE x.2 own y.2)) := rfl
@[simp] theorem ev_call (f : FnE) (args : List ME) (ρ : Rho) : ev (.call f args) ρ = (evArgs f.ks args ρ).bind fun x => match if refNd f.ks args then finArgs f.ks args x.1 x.2 else none with
    | none => .stuck
    | some ds => match f.F ds with
      | .stuck => .stuck
      | .exc c _ => if f.ks.contains .io then .stuck else .exc c x.2
      | .ok (d, outs) => match outArgs f.ks args outs x.2 with
        | none => .stuck
        | some ρ' => .ok (d, ρ') := rfl
@[simp] theorem ev_isi (a : ME) (t : String) (ρ : Rho) : ev (.isi a t) ρ = (pre a (ev a) ρ).bind fun x => match fin a x.1 x.2 with
    | some d => opt ((isiD d t).map .bl) x.2
    | none => .stuck := rfl
@[simp] theorem ev_b1 (b : B1) (a : ME) (ρ : Rho) : ev (.b1 b a) ρ = (pre a (ev a) ρ).bind fun x => match fin a x.1 x.2 with
    | some d => opt (b1D b d) x.2
    | none => .stuck := rfl
@[simp] theorem ev_idx (a i : ME) (ρ : Rho) : ev (.idx a i) ρ = (pre a (ev a) ρ).bind fun x => (pre i (ev i) x.2).bind fun y => match fin a x.1 y.2, fin i y.1 y.2 with
    | some p, some q => opt (idxD p q) y.2
    | _, _ => .stuck := rfl
@[simp] theorem ev_sl (a : ME) (lo hi : List ME) (ρ : Rho) : ev (.sl a lo hi) ρ = (pre a (ev a) ρ).bind fun x => (evPart lo x.2).bind fun y => (evPart hi y.2).bind fun z => match fin a x.1 z.2 with
    | some p => opt (slD p y.1 z.1) z.2
    | none => .stuck := rfl
@[simp] theorem evPart_nil (ρ : Rho) : evPart [] ρ = .ok (none, ρ) := rfl
@[simp] theorem evPart_one (m : ME) (ρ : Rho) : evPart [m] ρ = (ev m ρ).bind fun x => match x.1 with
    | .int i => .ok (some i, x.2)
    | _ => .stuck := rfl
@[simp] theorem ev_rev (a : ME) (ρ : Rho) : ev (.rev a) ρ = (pre a (ev a) ρ).bind fun x => match fin a x.1 x.2 with
    | some (.lst l) => .ok (.lst l.reverse, x.2)
    | some (.str l) => .ok (.str l.reverse, x.2)
    | _ => .stuck := rfl
@[simp] theorem ev_join (s a : ME) (ρ : Rho) : ev (.join s a) ρ = (ev s ρ).bind fun x => match x.1 with
    | .str s => (pre a (ev a) x.2).bind fun y => match fin a y.1 y.2 with
      | some (.lst l) => match allStr l with
        | some ls => if (ls.map List.length).sum + ls.length * s.length ≤ 16777216 then .ok (.str (joinL s ls), y.2) else .stuck
        | none => .stuck
      | _ => .stuck
    | _ => .stuck := rfl
@[simp] theorem ev_dsel (ks : List (List Nat)) (vs : List Int) (a : ME) (ρ : Rho) : ev (.dsel ks vs a) ρ = (ev a ρ).bind fun x => match x.1 with
    | .str s => match (ks.zip vs).find? fun p => decide (p.1 = s) with
      | some p => .ok (.int p.2, x.2)
      | none => .stuck
    | _ => .stuck := rfl
@[simp] theorem evIfs_nil (ρ : Rho) : evIfs [] ρ = .ok (true, ρ) := rfl
@[simp] theorem evIfs_one (m : ME) (ρ : Rho) : evIfs [m] ρ = (ev m ρ).bind fun x => match x.1 with
      | .bl b => .ok (b, x.2)
      | _ => .stuck := rfl
@[simp] theorem evArgs_nil (ρ : Rho) : evArgs [] [] ρ = .ok ([], ρ) := rfl
@[simp] theorem evArgs_cons (p : PK) (ps : List PK) (m : ME) (ms : List ME) (ρ : Rho) : evArgs (p :: ps) (m :: ms) ρ = (evArg p m (ev m) ρ).bind fun x => (evArgs ps ms x.2).bind fun y => .ok (x.1 :: y.1, y.2) := rfl
@[simp] theorem evArg_im (m : ME) (e : Ev) (ρ : Rho) : evArg .im m e ρ = (e ρ).bind fun r => .ok (some r.1, r.2) := rfl
@[simp] theorem finArgs_nil (ρ : Rho) : finArgs [] [] [] ρ = some [] := rfl
@[simp] theorem finArgs_im (ps : List PK) (m : ME) (ms : List ME) (o : Option D) (os : List (Option D)) (ρ : Rho) : finArgs (.im :: ps) (m :: ms) (o :: os) ρ = match o, finArgs ps ms os ρ with
  | some d, some ds => some (d :: ds)
  | _, _ => none := rfl
@[simp] theorem outArgs_nil (ρ : Rho) : outArgs [] [] [] ρ = some ρ := rfl
@[simp] theorem outArgs_im (ps : List PK) (m : ME) (ms : List ME) (ds : List D) (ρ : Rho) : outArgs (.im :: ps) (m :: ms) ds ρ = outArgs ps ms ds ρ := by cases ds <;> rfl
@[simp] theorem refNd_nil : refNd [] [] = true := rfl
@[simp] theorem refNd_im (ps : List PK) (m : ME) (ms : List ME) : refNd (.im :: ps) (m :: ms) = refNd ps ms := rfl
/-! statements -/
@[simp] theorem evSs_nil (n : Nat) (ρ : Rho) : evSs n [] ρ = .ok (.nx, ρ) := rfl
theorem evSs_cons (n : Nat) (m : MS) (ms : List MS) (ρ : Rho) : evSs n (m :: ms) ρ = (evS n m ρ).bind fun r => match r.1 with
    | .nx => evSs n ms r.2
    | .ret v => .ok (.ret v, r.2) := rfl
theorem evSs_step {n : Nat} {m : MS} {ms : List MS} {ρ ρ' : Rho} (h : evS n m ρ = .ok (.nx, ρ')) : evSs n (m :: ms) ρ = evSs n ms ρ' := by
  rw [evSs_cons, h]
  rfl
theorem evSs_done {n : Nat} {m : MS} {ms : List MS} {ρ ρ' : Rho} {d : D} (h : evS n m ρ = .ok (.ret d, ρ')) : evSs n (m :: ms) ρ = .ok (.ret d, ρ') := by
  rw [evSs_cons, h]
  rfl
theorem run_ret {ks : List PK} {nN n : Nat} {fr : Bool} {ms : List MS} {ds : List D} {d : D} {ρ' : Rho} (h : evSs n ms (rho0 ks ds nN) = .ok (.ret d, ρ')) (hk : ks.contains .io = false) : runF ks nN fr n ms ds = .ok (d, []) := by
  unfold runF
  rw [h]
  show Out.ok (d, ioOuts ks ρ') = _
  rw [ioOuts_noio ks ρ' hk]
@[simp] theorem ixD0 {α : Type} (x : α) (l : List α) : ixD (x :: l) 0 = some x := rfl
@[simp] theorem ixD1 {α : Type} (x y : α) (l : List α) : ixD (x :: y :: l) 1 = some y := rfl
@[simp] theorem ixD2 {α : Type} (x y z : α) (l : List α) : ixD (x :: y :: z :: l) 2 = some z := rfl
@[simp] theorem ixD3 {α : Type} (x y z w : α) (l : List α) : ixD (x :: y :: z :: w :: l) 3 = some w := rfl
@[simp] theorem evS_asg (n : Nat) (tg : Tg) (e : ME) (ρ : Rho) : evS n (.asg tg e) ρ = (ev e ρ).bind fun x => match setT tg x.1 x.2 with
    | some ρ' => .ok (.nx, ρ')
    | none => .stuck := rfl
@[simp] theorem evS_ite (n : Nat) (c : ME) (a b : List MS) (ρ : Rho) : evS n (.ite c a b) ρ = (ev c ρ).bind fun x => match x.1 with
    | .bl true => evSs n a x.2
    | .bl false => evSs n b x.2
    | _ => .stuck := rfl
@[simp] theorem evS_ret (n : Nat) (e : ME) (ρ : Rho) : evS n (.ret e) ρ = (ev e ρ).bind fun x => .ok (.ret x.1, x.2) := rfl
@[simp] theorem evS_retN (n : Nat) (ρ : Rho) : evS n .retN ρ = .ok (.ret .non, ρ) := rfl
@[simp] theorem evS_rai (n : Nat) (c : String) (ρ : Rho) : evS n (.rai c) ρ = .exc c ρ := rfl
@[simp] theorem evS_exp (n : Nat) (e : ME) (ρ : Rho) : evS n (.exp e) ρ = (ev e ρ).bind fun x => .ok (.nx, x.2) := rfl
theorem evS_for (n : Nat) (tg : Tg) (k : IK) (args : List ME) (body : List MS) (ρ : Rho) : evS n (.for tg k args body) ρ = (pres args ρ).bind fun x => match (finL args x.1 x.2).bind (iterD k) with
    | none => .stuck
    | some items => unlockO x.2 args (forLoop (evSs n body) tg items (lockE args x.2)) := rfl
@[simp] theorem setT_nm (i : Nat) (d : D) (ρ : Rho) : setT (.nm i) d ρ = setE ρ i (.im d) := rfl
@[simp] theorem setT_tp (l : List Nat) (ds : List D) (ρ : Rho) : setT (.tp l) (.tup ds) ρ = setTs l ds ρ := rfl
@[simp] theorem setTs_nil (ρ : Rho) : setTs [] [] ρ = some ρ := rfl
@[simp] theorem setTs_cons (i : Nat) (is : List Nat) (d : D) (ds : List D) (ρ : Rho) : setTs (i :: is) (d :: ds) ρ = match setE ρ i (.im d) with
    | some ρ' => setTs is ds ρ'
    | none => none := rfl
@[simp] theorem setE_eq (ρ : Rho) (i : Nat) (e : Ent) : setE ρ i e = match ρ[i]? with
  | some .un => some (ρ.set i e)
  | some (.im _) => some (ρ.set i e)
  | some (.ow _) => some (ρ.set i e)
  | _ => none := rfl
@[simp] theorem wipeE_nil (ρ : Rho) : wipeE [] ρ = some ρ := rfl
@[simp] theorem wipeE_cons (v : Nat) (vs : List Nat) (ρ : Rho) : wipeE (v :: vs) ρ = match ρ[v]? with
    | some .un => wipeE vs (ρ.set v .un)
    | some (.im _) => wipeE vs (ρ.set v .un)
    | _ => none := rfl
@[simp] theorem backE_nil (ρ0 ρ : Rho) : backE ρ0 [] ρ = ρ := rfl
@[simp] theorem backE_cons (ρ0 : Rho) (v : Nat) (vs : List Nat) (ρ : Rho) : backE ρ0 (v :: vs) ρ = backE ρ0 vs (ρ.set v (ρ0[v]?.getD .un)) := rfl
@[simp] theorem noexc_ok {α : Type} (a : α) : noexc (Out.ok a) = Out.ok a := rfl
end NV


namespace K1
open PySem PySem.Spec PyProof.Rows L2 L2H NV
def top (i : Nat) : Stmt := PySem.Challenge.pw_nestwords_k01_signs_and_words.main.body.getD i (.Pass ⟨0, 0, 0, 0⟩)
structure Txt (K : PySem.W.Frag) (mg : Str → Option Value) : Prop where
  bas : Bas K mg
  c_LETTERS : ∃ t, mg "LETTERS" = some (.str "abcdefghijklmnopqrstuvwxyz" t)
  c_MOST_SIGNS : ∃ t, mg "MOST_SIGNS" = some (.int 4 t)
  x_BadSigns : ExcG K mg "BadSigns"
  x_BadWord : ExcG K mg "BadWord"
section
variable {P : Program} {w : World} {K : PySem.W.Frag} {mg : Str → Option Value} {base : Heap} {C : Nat → Addr} {CN : Addr}

abbrev s_are_letters : Stmt := top 12
abbrev N_are_letters : List Str := ["thing", "sign"]
def m_are_letters : List MS := [.ite (.or [(.not (.isi (.var 0) "str")), (.cmp .gt (.b1 .len (.var 0)) (.cst (.int 4)))]) [.ret (.cst (.bl false))] [], .ret (.b1 .all (.comp (.cmp .isin (.var 1) (.cst (.str [97, 98, 99, 100, 101, 102, 103, 104, 105, 106, 107, 108, 109, 110, 111, 112, 113, 114, 115, 116, 117, 118, 119, 120, 121, 122]))) (.nm 1) .seq [(.var 0)] [] [1]))]
def E_are_letters : FnE := ⟨[.im], false, runF [.im] 2 false 0 m_are_letters⟩
@[simp] theorem ks_are_letters : E_are_letters.ks = [.im] := rfl
theorem F_are_letters (ds : List D) : E_are_letters.F ds = runF [.im] 2 false 0 m_are_letters ds := rfl
theorem sc_are_letters : FnScope N_are_letters ["thing"] (defScope s_are_letters) := ⟨rfl, rfl, rfl, by decide +kernel, rfl, by decide +kernel, by decide +kernel⟩
theorem g_are_letters (T : Txt K mg) {f : Addr} {fd : FuncData} (F : L2.Fun K "are_letters" "are_letters" s_are_letters f fd) (hm : mg "are_letters" = some (.ref f)) (hb : Binds K fd ["thing"] []) : FnG P w K mg base 1 "are_letters" E_are_letters :=
  fn_g (k := 0) T.bas F hm hb sc_are_letters rfl fun cdv A outer s H E hr O =>
  (ss_cons (ss_if (g_or (g_l1 (s_not (g_isi O (t := "str") (g_v (i := 0)) O.blt.str)) (g_l1 (g_cmp O .gt (g_len O (g_v (i := 0))) (g_gi T.c_MOST_SIGNS)) .nil))) (ss_cons (ss_ret g_bl)
  ss_nil) ss_nil)
  (ss_cons (ss_ret (g_all O (g_val (g_comp [("sign", 1)] O (g_seq (g_v (i := 0))) (fun _ _ _ _ _ => (g_t O.nd (i := 1))) (fun _ _ _ _ _ _ => g_if0) (fun _ _ _ _ _ O1 => (g_cmp O1 .isin (g_v (i := 1)) (g_gs T.c_LETTERS)))))))
  ss_nil))

abbrev s_is_signs : Stmt := top 13
abbrev N_is_signs : List Str := ["thing", "every", "part"]
def m_is_signs : List MS := [.ite (.or [(.not (.isi (.var 0) "tuple")), (.cmp .ne (.b1 .len (.var 0)) (.cst (.int 3))), (.not (.b1 .all (.comp (.call E_are_letters [(.var 2)]) (.nm 2) .seq [(.var 0)] [] [2])))]) [.ret (.cst (.bl false))] [], .asg (.nm 1) (.bin .add (.bin .add (.idx (.var 0) (.cst (.int 0))) (.idx (.var 0) (.cst (.int 1)))) (.idx (.var 0) (.cst (.int 2)))), .ret (.cmp .eq (.b1 .lenset (.var 1)) (.b1 .len (.var 1)))]
def E_is_signs : FnE := ⟨[.im], false, runF [.im] 3 false 0 m_is_signs⟩
@[simp] theorem ks_is_signs : E_is_signs.ks = [.im] := rfl
theorem F_is_signs (ds : List D) : E_is_signs.F ds = runF [.im] 3 false 0 m_is_signs ds := rfl
theorem sc_is_signs : FnScope N_is_signs ["thing"] (defScope s_is_signs) := ⟨rfl, rfl, rfl, by decide +kernel, rfl, by decide +kernel, by decide +kernel⟩
theorem g_is_signs (T : Txt K mg) (G_are_letters : FnG P w K mg base 1 "are_letters" E_are_letters) {f : Addr} {fd : FuncData} (F : L2.Fun K "is_signs" "is_signs" s_is_signs f fd) (hm : mg "is_signs" = some (.ref f)) (hb : Binds K fd ["thing"] []) : FnG P w K mg base 2 "is_signs" E_is_signs :=
  fn_g (k := 1) T.bas F hm hb sc_is_signs rfl fun cdv A outer s H E hr O =>
  (ss_cons (ss_if (g_or (g_l1 (s_not (g_isi O (t := "tuple") (g_v (i := 0)) O.blt.tuple)) (g_l1 (g_cmp O .ne (g_len O (g_v (i := 0))) g_int) (g_l1 (s_not (g_all O (g_val (g_comp [("part", 2)] O (g_seq (g_v (i := 0))) (fun _ _ _ _ _ => (g_t O.nd (i := 2))) (fun _ _ _ _ _ _ => g_if0) (fun _ _ _ _ _ O1 => (g_call O1 (G_are_letters.at hr (by decide)) (g_ai (g_v (i := 2)) sa_nil))))))) .nil)))) (ss_cons (ss_ret g_bl)
  ss_nil) ss_nil)
  (ss_cons (g_asg (g_op .add (g_op .add (g_idx O (g_v (i := 0)) g_int) (g_idx O (g_v (i := 0)) g_int)) (g_idx O (g_v (i := 0)) g_int)) (g_t O.nd (i := 1)))
  (ss_cons (ss_ret (g_cmp O .eq (g_lenset O (g_v (i := 1))) (g_len O (g_v (i := 1)))))
  ss_nil)))

abbrev s_need_signs : Stmt := top 14
abbrev N_need_signs : List Str := ["signs"]
def m_need_signs : List MS := [.ite (.not (.call E_is_signs [(.var 0)])) [.rai "BadSigns"] []]
def E_need_signs : FnE := ⟨[.im], false, runF [.im] 1 false 0 m_need_signs⟩
@[simp] theorem ks_need_signs : E_need_signs.ks = [.im] := rfl
theorem F_need_signs (ds : List D) : E_need_signs.F ds = runF [.im] 1 false 0 m_need_signs ds := rfl
theorem sc_need_signs : FnScope N_need_signs ["signs"] (defScope s_need_signs) := ⟨rfl, rfl, rfl, by decide +kernel, rfl, by decide +kernel, by decide +kernel⟩
theorem g_need_signs (T : Txt K mg) (G_is_signs : FnG P w K mg base 2 "is_signs" E_is_signs) {f : Addr} {fd : FuncData} (F : L2.Fun K "need_signs" "need_signs" s_need_signs f fd) (hm : mg "need_signs" = some (.ref f)) (hb : Binds K fd ["signs"] []) : FnG P w K mg base 3 "need_signs" E_need_signs :=
  fn_g (k := 2) T.bas F hm hb sc_need_signs rfl fun cdv A outer s H E hr O =>
  (ss_cons (ss_if (s_not (g_call O (G_is_signs.at hr (by decide)) (g_ai (g_v (i := 0)) sa_nil))) (ss_cons (g_rai O T.x_BadSigns.at)
  ss_nil) ss_nil)
  ss_nil)

abbrev s_kind_of : Stmt := top 15
abbrev N_kind_of : List Str := ["signs", "thing", "word", "part"]
def m_kind_of : List MS := [.ite (.or [(.not (.isi (.var 1) "str")), (.cmp .ne (.b1 .len (.var 1)) (.cst (.int 1)))]) [.ret (.cst (.str []))] [], .for (.tp [2, 3]) .zip [(.tup [(.cst (.str [111, 112, 101, 110])), (.cst (.str [99, 108, 111, 115, 101])), (.cst (.str [111, 110]))]), (.var 0)] [.ite (.cmp .isin (.var 1) (.var 3)) [.ret (.var 2)] []], .ret (.cst (.str []))]
def E_kind_of : FnE := ⟨[.im, .im], false, runF [.im, .im] 4 false 0 m_kind_of⟩
@[simp] theorem ks_kind_of : E_kind_of.ks = [.im, .im] := rfl
theorem F_kind_of (ds : List D) : E_kind_of.F ds = runF [.im, .im] 4 false 0 m_kind_of ds := rfl
theorem sc_kind_of : FnScope N_kind_of ["signs", "thing"] (defScope s_kind_of) := ⟨rfl, rfl, rfl, by decide +kernel, rfl, by decide +kernel, by decide +kernel⟩
theorem g_kind_of (T : Txt K mg) {f : Addr} {fd : FuncData} (F : L2.Fun K "kind_of" "kind_of" s_kind_of f fd) (hm : mg "kind_of" = some (.ref f)) (hb : Binds K fd ["signs", "thing"] []) : FnG P w K mg base 1 "kind_of" E_kind_of :=
  fn_g (k := 0) T.bas F hm hb sc_kind_of rfl fun cdv A outer s H E hr O =>
  (ss_cons (ss_if (g_or (g_l1 (s_not (g_isi O (t := "str") (g_v (i := 1)) O.blt.str)) (g_l1 (g_cmp O .ne (g_len O (g_v (i := 1))) g_int) .nil))) (ss_cons (ss_ret g_str)
  ss_nil) ss_nil)
  (ss_cons (g_for O (passes_of rfl) (g_zip O (g_tup (g_l1 g_str (g_l1 g_str (g_l1 g_str .nil)))) (g_v (i := 0))) (g_tt (g_t1 O.nd (i := 2) (g_t1 O.nd (i := 3) g_t0))) (ss_cons (ss_if (g_cmp O .isin (g_v (i := 1)) (g_v (i := 3))) (ss_cons (ss_ret (g_v (i := 2)))
  ss_nil) ss_nil)
  ss_nil))
  (ss_cons (ss_ret g_str)
  ss_nil)))

abbrev s_is_nested : Stmt := top 16
abbrev N_is_nested : List Str := ["signs", "thing", "deep", "sign", "word"]
def m_is_nested : List MS := [.ite (.not (.isi (.var 1) "str")) [.ret (.cst (.bl false))] [], .asg (.nm 2) (.cst (.int 0)), .for (.nm 3) .seq [(.var 1)] [.asg (.nm 4) (.call E_kind_of [(.var 0), (.var 3)]), .ite (.or [(.cmp .eq (.var 4) (.cst (.str []))), (.and [(.cmp .eq (.var 4) (.cst (.str [99, 108, 111, 115, 101]))), (.cmp .eq (.var 2) (.cst (.int 0)))])]) [.ret (.cst (.bl false))] [], .asg (.nm 2) (.bin .add (.var 2) (.dsel [[111, 112, 101, 110], [99, 108, 111, 115, 101], [111, 110]] [1, (-1), 0] (.var 4)))], .ret (.cmp .eq (.var 2) (.cst (.int 0)))]
def E_is_nested : FnE := ⟨[.im, .im], false, runF [.im, .im] 5 false 0 m_is_nested⟩
@[simp] theorem ks_is_nested : E_is_nested.ks = [.im, .im] := rfl
theorem F_is_nested (ds : List D) : E_is_nested.F ds = runF [.im, .im] 5 false 0 m_is_nested ds := rfl
theorem sc_is_nested : FnScope N_is_nested ["signs", "thing"] (defScope s_is_nested) := ⟨rfl, rfl, rfl, by decide +kernel, rfl, by decide +kernel, by decide +kernel⟩
theorem g_is_nested (T : Txt K mg) (G_kind_of : FnG P w K mg base 1 "kind_of" E_kind_of) {f : Addr} {fd : FuncData} (F : L2.Fun K "is_nested" "is_nested" s_is_nested f fd) (hm : mg "is_nested" = some (.ref f)) (hb : Binds K fd ["signs", "thing"] []) : FnG P w K mg base 2 "is_nested" E_is_nested :=
  fn_g (k := 1) T.bas F hm hb sc_is_nested rfl fun cdv A outer s H E hr O =>
  (ss_cons (ss_if (s_not (g_isi O (t := "str") (g_v (i := 1)) O.blt.str)) (ss_cons (ss_ret g_bl)
  ss_nil) ss_nil)
  (ss_cons (g_asg g_int (g_t O.nd (i := 2)))
  (ss_cons (g_for O (passes_of rfl) (g_seq (g_v (i := 1))) (g_t O.nd (i := 3)) (ss_cons (g_asg (g_call O (G_kind_of.at hr (by decide)) (g_ai (g_v (i := 0)) (g_ai (g_v (i := 3)) sa_nil))) (g_t O.nd (i := 4)))
  (ss_cons (ss_if (g_or (g_l1 (g_cmp O .eq (g_v (i := 4)) g_str) (g_l1 (g_and (g_l1 (g_cmp O .eq (g_v (i := 4)) g_str) (g_l1 (g_cmp O .eq (g_v (i := 2)) g_int) .nil))) .nil))) (ss_cons (ss_ret g_bl)
  ss_nil) ss_nil)
  (ss_cons (g_asg (g_op .add (g_v (i := 2)) (g_dsel O (ss := [[111, 112, 101, 110], [99, 108, 111, 115, 101], [111, 110]]) (is := [1, (-1), 0]) (.cons (pe_strc [111, 112, 101, 110]) (pe_int) (.cons (pe_strc [99, 108, 111, 115, 101]) (pe_neg) (.cons (pe_strc [111, 110]) (pe_int) .nil))) (g_v (i := 4)))) (g_t O.nd (i := 2)))
  ss_nil))))
  (ss_cons (ss_ret (g_cmp O .eq (g_v (i := 2)) g_int))
  ss_nil))))

abbrev s_need_word : Stmt := top 17
abbrev N_need_word : List Str := ["signs", "word"]
def m_need_word : List MS := [.ite (.not (.call E_is_nested [(.var 0), (.var 1)])) [.rai "BadWord"] []]
def E_need_word : FnE := ⟨[.im, .im], false, runF [.im, .im] 2 false 0 m_need_word⟩
@[simp] theorem ks_need_word : E_need_word.ks = [.im, .im] := rfl
theorem F_need_word (ds : List D) : E_need_word.F ds = runF [.im, .im] 2 false 0 m_need_word ds := rfl
theorem sc_need_word : FnScope N_need_word ["signs", "word"] (defScope s_need_word) := ⟨rfl, rfl, rfl, by decide +kernel, rfl, by decide +kernel, by decide +kernel⟩
theorem g_need_word (T : Txt K mg) (G_is_nested : FnG P w K mg base 2 "is_nested" E_is_nested) {f : Addr} {fd : FuncData} (F : L2.Fun K "need_word" "need_word" s_need_word f fd) (hm : mg "need_word" = some (.ref f)) (hb : Binds K fd ["signs", "word"] []) : FnG P w K mg base 3 "need_word" E_need_word :=
  fn_g (k := 2) T.bas F hm hb sc_need_word rfl fun cdv A outer s H E hr O =>
  (ss_cons (ss_if (s_not (g_call O (G_is_nested.at hr (by decide)) (g_ai (g_v (i := 0)) (g_ai (g_v (i := 1)) sa_nil)))) (ss_cons (g_rai O T.x_BadWord.at)
  ss_nil) ss_nil)
  ss_nil)

abbrev s__law_cell_at : Stmt := top 19
abbrev N__law_cell_at : List Str := ["_law_script", "_law_k"]
def m__law_cell_at : List MS := [.ite (.cmp .lt (.var 1) (.b1 .len (.var 0))) [.ret (.idx (.var 0) (.var 1))] [], .ret (.cst (.int 0))]
def E__law_cell_at : FnE := ⟨[.im, .im], false, runF [.im, .im] 2 false 0 m__law_cell_at⟩
@[simp] theorem ks__law_cell_at : E__law_cell_at.ks = [.im, .im] := rfl
theorem F__law_cell_at (ds : List D) : E__law_cell_at.F ds = runF [.im, .im] 2 false 0 m__law_cell_at ds := rfl
theorem sc__law_cell_at : FnScope N__law_cell_at ["_law_script", "_law_k"] (defScope s__law_cell_at) := ⟨rfl, rfl, rfl, by decide +kernel, rfl, by decide +kernel, by decide +kernel⟩
theorem g__law_cell_at (T : Txt K mg) {f : Addr} {fd : FuncData} (F : L2.Fun K "_law_cell_at" "_law_cell_at" s__law_cell_at f fd) (hm : mg "_law_cell_at" = some (.ref f)) (hb : Binds K fd ["_law_script", "_law_k"] []) : FnG P w K mg base 1 "_law_cell_at" E__law_cell_at :=
  fn_g (k := 0) T.bas F hm hb sc__law_cell_at rfl fun cdv A outer s H E hr O =>
  (ss_cons (ss_if (g_cmp O .lt (g_v (i := 1)) (g_len O (g_v (i := 0)))) (ss_cons (ss_ret (g_idx O (g_v (i := 0)) (g_v (i := 1))))
  ss_nil) ss_nil)
  (ss_cons (ss_ret g_int)
  ss_nil))

abbrev s__law_mixed : Stmt := top 20
abbrev N__law_mixed : List Str := ["_law_cell", "_law_k"]
def m__law_mixed : List MS := [.ret (.bin .mod (.bin .add (.bin .mul (.var 0) (.cst (.int 48271))) (.bin .mul (.cst (.int 7919)) (.var 1))) (.cst (.int 1000003)))]
def E__law_mixed : FnE := ⟨[.im, .im], false, runF [.im, .im] 2 false 0 m__law_mixed⟩
@[simp] theorem ks__law_mixed : E__law_mixed.ks = [.im, .im] := rfl
theorem F__law_mixed (ds : List D) : E__law_mixed.F ds = runF [.im, .im] 2 false 0 m__law_mixed ds := rfl
theorem sc__law_mixed : FnScope N__law_mixed ["_law_cell", "_law_k"] (defScope s__law_mixed) := ⟨rfl, rfl, rfl, by decide +kernel, rfl, by decide +kernel, by decide +kernel⟩
theorem g__law_mixed (T : Txt K mg) {f : Addr} {fd : FuncData} (F : L2.Fun K "_law_mixed" "_law_mixed" s__law_mixed f fd) (hm : mg "_law_mixed" = some (.ref f)) (hb : Binds K fd ["_law_cell", "_law_k"] []) : FnG P w K mg base 1 "_law_mixed" E__law_mixed :=
  fn_g (k := 0) T.bas F hm hb sc__law_mixed rfl fun cdv A outer s H E hr O =>
  (ss_cons (ss_ret (g_op .mod (g_op .add (g_op .mul (g_v (i := 0)) g_int) (g_op .mul g_int (g_v (i := 1)))) g_int))
  ss_nil)

abbrev s__law_alone : Stmt := top 21
abbrev N__law_alone : List Str := ["_law_e", "_law_own", "_law_some"]
theorem sc__law_alone : FnScope N__law_alone ["_law_e", "_law_own"] (defScope s__law_alone) := ⟨rfl, rfl, rfl, by decide +kernel, rfl, by decide +kernel, by decide +kernel⟩
theorem g__law_alone (EX : Exs K mg C CN) (T : Txt K mg) {f : Addr} {fd : FuncData} (F : L2.Fun K "_law_alone" "_law_alone" s__law_alone f fd) (hm : mg "_law_alone" = some (.ref f)) (hb : Binds K fd ["_law_e", "_law_own"] []) : AlG P w K mg base C :=
  ⟨f, fd, hm, F.kp, hb, fun j p hj hz hf => fn_okP (k := 0) F sc__law_alone rfl (fun ds _ => alone_run p.1 j hj ds) fun cdv A outer s H E hr =>
    have hu : (A.deeper (envOfC "_law_alone" (defScope s__law_alone) s.heap.objs.size f cdv)).units + 65 < cLine := by have := hr.un; omega
    have nd : N__law_alone.Nodup := sc__law_alone.nd
    have hp : p ∈ (cxP P w K mg base N__law_alone "_law_alone" (defScope s__law_alone) f cdv A outer s H E p).pn := List.mem_cons_self
    have bi := T.bas.blt.isinstance
    ss_cons (g_asg (g_val (g_lst (g_l1 (g_isx EX hj 0 (by decide) hp hz hf bi (g_v (i := 0))) (g_l1 (g_isx EX hj 1 (by decide) hp hz hf bi (g_v (i := 0))) (g_l1 (g_isx EX hj 2 (by decide) hp hz hf bi (g_v (i := 0))) (g_l1 (g_isx EX hj 3 (by decide) hp hz hf bi (g_v (i := 0))) .nil)))))) (g_t nd (i := 2)))
    (ss_cons (g_asg (g_op .add (g_v (i := 2)) (g_val (g_lst (g_l1 (g_isx EX hj 4 (by decide) hp hz hf bi (g_v (i := 0))) (g_l1 (g_isx EX hj 5 (by decide) hp hz hf bi (g_v (i := 0))) (g_l1 (g_isx EX hj 6 (by decide) hp hz hf bi (g_v (i := 0))) .nil)))))) (g_t nd (i := 2)))
    (ss_cons (ss_ret (g_and (g_l1 (s_cmp (o := .eq) (g_cnt hu (g_v (i := 2)) g_bl) g_int rfl (op_cm hu .eq)) (g_l1 (s_idx hu (g_v (i := 2)) (g_v (i := 1)) (fun _ _ => rfl)) (g_l1 (g_isxN EX hj hp hz hf bi (g_v (i := 0))) (g_l1 (g_isxV EX hj hp hz hf bi (g_v (i := 0))) .nil)))))) ss_nil))⟩

abbrev s__law_signs_by : Stmt := top 22
abbrev N__law_signs_by : List Str := ["_law_cell", "_law_letters", "_law_step", "_law_row", "_law_one", "_law_other", "_law_k"]
def m__law_signs_by : List MS := [.asg (.nm 1) (.cst (.str [97, 98, 99, 100, 101, 102, 103, 104, 105, 106, 107, 108, 109, 110, 111, 112, 113, 114, 115, 116, 117, 118, 119, 120, 121, 122])), .asg (.nm 2) (.bin .add (.cst (.int 1)) (.bin .mul (.cst (.int 2)) (.bin .mod (.bin .div (.var 0) (.cst (.int 26))) (.cst (.int 5))))), .asg (.nm 3) (.join (.cst (.str [])) (.comp (.idx (.var 1) (.bin .mod (.bin .add (.var 0) (.bin .mul (.var 2) (.var 6))) (.cst (.int 26)))) (.nm 6) .rng1 [(.cst (.int 6))] [] [6])), .asg (.nm 4) (.idx (.lst [(.cst (.int 1)), (.cst (.int 1)), (.cst (.int 2)), (.cst (.int 0))]) (.bin .mod (.bin .div (.var 0) (.cst (.int 130))) (.cst (.int 4)))), .asg (.nm 5) (.bin .add (.var 4) (.idx (.lst [(.cst (.int 1)), (.cst (.int 2)), (.cst (.int 1)), (.cst (.int 1)), (.cst (.int 0))]) (.bin .mod (.bin .div (.var 0) (.cst (.int 520))) (.cst (.int 5))))), .ret (.tup [(.sl (.var 3) [] [(.var 4)]), (.sl (.var 3) [(.var 4)] [(.var 5)]), (.sl (.var 3) [(.var 5)] [(.bin .add (.var 5) (.bin .mod (.bin .div (.var 0) (.cst (.int 2600))) (.cst (.int 3))))])])]
def E__law_signs_by : FnE := ⟨[.im], false, runF [.im] 7 false 0 m__law_signs_by⟩
@[simp] theorem ks__law_signs_by : E__law_signs_by.ks = [.im] := rfl
theorem F__law_signs_by (ds : List D) : E__law_signs_by.F ds = runF [.im] 7 false 0 m__law_signs_by ds := rfl
theorem sc__law_signs_by : FnScope N__law_signs_by ["_law_cell"] (defScope s__law_signs_by) := ⟨rfl, rfl, rfl, by decide +kernel, rfl, by decide +kernel, by decide +kernel⟩
theorem g__law_signs_by (T : Txt K mg) {f : Addr} {fd : FuncData} (F : L2.Fun K "_law_signs_by" "_law_signs_by" s__law_signs_by f fd) (hm : mg "_law_signs_by" = some (.ref f)) (hb : Binds K fd ["_law_cell"] []) : FnG P w K mg base 1 "_law_signs_by" E__law_signs_by :=
  fn_g (k := 0) T.bas F hm hb sc__law_signs_by rfl fun cdv A outer s H E hr O =>
  (ss_cons (g_asg g_str (g_t O.nd (i := 1)))
  (ss_cons (g_asg (g_op .add g_int (g_op .mul g_int (g_op .mod (g_op .div (g_v (i := 0)) g_int) g_int))) (g_t O.nd (i := 2)))
  (ss_cons (g_asg (g_join g_str (g_val (g_comp [("_law_k", 6)] O (g_rng1 O g_int) (fun _ _ _ _ _ => (g_t O.nd (i := 6))) (fun _ _ _ _ _ _ => g_if0) (fun _ _ _ _ _ O1 => (g_idx O1 (g_v (i := 1)) (g_op .mod (g_op .add (g_v (i := 0)) (g_op .mul (g_v (i := 2)) (g_v (i := 6)))) g_int)))))) (g_t O.nd (i := 3)))
  (ss_cons (g_asg (g_idx O (g_val (g_lst (g_l1 g_int (g_l1 g_int (g_l1 g_int (g_l1 g_int .nil)))))) (g_op .mod (g_op .div (g_v (i := 0)) g_int) g_int)) (g_t O.nd (i := 4)))
  (ss_cons (g_asg (g_op .add (g_v (i := 4)) (g_idx O (g_val (g_lst (g_l1 g_int (g_l1 g_int (g_l1 g_int (g_l1 g_int (g_l1 g_int .nil))))))) (g_op .mod (g_op .div (g_v (i := 0)) g_int) g_int))) (g_t O.nd (i := 5)))
  (ss_cons (ss_ret (g_tup (g_l1 (s_sl (g_v (i := 3)) .none (.some (g_v (i := 4)))) (g_l1 (s_sl (g_v (i := 3)) (.some (g_v (i := 4))) (.some (g_v (i := 5)))) (g_l1 (s_sl (g_v (i := 3)) (.some (g_v (i := 5))) (.some (g_op .add (g_v (i := 5)) (g_op .mod (g_op .div (g_v (i := 0)) g_int) g_int)))) .nil)))))
  ss_nil))))))

abbrev s__law_word_by : Stmt := top 23
abbrev N__law_word_by : List Str := ["_law_signs", "_law_cells", "_law_word", "_law_deep", "_law_cell", "_law_k"]
def m__law_word_by : List MS := [.asg (.nm 2) (.cst (.str [])), .asg (.nm 3) (.cst (.int 0)), .for (.nm 4) .seq [(.var 1)] [.ite (.and [(.cmp .eq (.bin .mod (.var 4) (.cst (.int 3))) (.cst (.int 0))), (.cmp .lt (.var 3) (.cst (.int 4))), (.cmp .ne (.idx (.var 0) (.cst (.int 0))) (.cst (.str []))), (.cmp .ne (.idx (.var 0) (.cst (.int 1))) (.cst (.str [])))]) [.asg (.nm 2) (.bin .add (.var 2) (.idx (.idx (.var 0) (.cst (.int 0))) (.bin .mod (.bin .div (.var 4) (.cst (.int 3))) (.b1 .len (.idx (.var 0) (.cst (.int 0))))))), .asg (.nm 3) (.bin .add (.var 3) (.cst (.int 1)))] [.ite (.and [(.cmp .eq (.bin .mod (.var 4) (.cst (.int 3))) (.cst (.int 1))), (.cmp .gt (.var 3) (.cst (.int 0)))]) [.asg (.nm 2) (.bin .add (.var 2) (.idx (.idx (.var 0) (.cst (.int 1))) (.bin .mod (.bin .div (.var 4) (.cst (.int 3))) (.b1 .len (.idx (.var 0) (.cst (.int 1))))))), .asg (.nm 3) (.bin .sub (.var 3) (.cst (.int 1)))] [.ite (.cmp .ne (.idx (.var 0) (.cst (.int 2))) (.cst (.str []))) [.asg (.nm 2) (.bin .add (.var 2) (.idx (.idx (.var 0) (.cst (.int 2))) (.bin .mod (.bin .div (.var 4) (.cst (.int 3))) (.b1 .len (.idx (.var 0) (.cst (.int 2)))))))] []]]], .for (.nm 5) .rng1 [(.var 3)] [.asg (.nm 2) (.bin .add (.var 2) (.idx (.idx (.var 0) (.cst (.int 1))) (.bin .mod (.bin .add (.b1 .len (.var 2)) (.var 5)) (.b1 .len (.idx (.var 0) (.cst (.int 1)))))))], .ret (.var 2)]
def E__law_word_by : FnE := ⟨[.im, .im], false, runF [.im, .im] 6 false 0 m__law_word_by⟩
@[simp] theorem ks__law_word_by : E__law_word_by.ks = [.im, .im] := rfl
theorem F__law_word_by (ds : List D) : E__law_word_by.F ds = runF [.im, .im] 6 false 0 m__law_word_by ds := rfl
theorem sc__law_word_by : FnScope N__law_word_by ["_law_signs", "_law_cells"] (defScope s__law_word_by) := ⟨rfl, rfl, rfl, by decide +kernel, rfl, by decide +kernel, by decide +kernel⟩
theorem g__law_word_by (T : Txt K mg) {f : Addr} {fd : FuncData} (F : L2.Fun K "_law_word_by" "_law_word_by" s__law_word_by f fd) (hm : mg "_law_word_by" = some (.ref f)) (hb : Binds K fd ["_law_signs", "_law_cells"] []) : FnG P w K mg base 1 "_law_word_by" E__law_word_by :=
  fn_g (k := 0) T.bas F hm hb sc__law_word_by rfl fun cdv A outer s H E hr O =>
  (ss_cons (g_asg g_str (g_t O.nd (i := 2)))
  (ss_cons (g_asg g_int (g_t O.nd (i := 3)))
  (ss_cons (g_for O (passes_of rfl) (g_seq (g_v (i := 1))) (g_t O.nd (i := 4)) (ss_cons (ss_if (g_and (g_l1 (g_cmp O .eq (g_op .mod (g_v (i := 4)) g_int) g_int) (g_l1 (g_cmp O .lt (g_v (i := 3)) g_int) (g_l1 (g_cmp O .ne (g_idx O (g_v (i := 0)) g_int) g_str) (g_l1 (g_cmp O .ne (g_idx O (g_v (i := 0)) g_int) g_str) .nil))))) (ss_cons (g_asg (g_op .add (g_v (i := 2)) (g_idx O (g_idx O (g_v (i := 0)) g_int) (g_op .mod (g_op .div (g_v (i := 4)) g_int) (g_len O (g_idx O (g_v (i := 0)) g_int))))) (g_t O.nd (i := 2)))
  (ss_cons (g_asg (g_op .add (g_v (i := 3)) g_int) (g_t O.nd (i := 3)))
  ss_nil)) (ss_cons (ss_if (g_and (g_l1 (g_cmp O .eq (g_op .mod (g_v (i := 4)) g_int) g_int) (g_l1 (g_cmp O .gt (g_v (i := 3)) g_int) .nil))) (ss_cons (g_asg (g_op .add (g_v (i := 2)) (g_idx O (g_idx O (g_v (i := 0)) g_int) (g_op .mod (g_op .div (g_v (i := 4)) g_int) (g_len O (g_idx O (g_v (i := 0)) g_int))))) (g_t O.nd (i := 2)))
  (ss_cons (g_asg (g_op .sub (g_v (i := 3)) g_int) (g_t O.nd (i := 3)))
  ss_nil)) (ss_cons (ss_if (g_cmp O .ne (g_idx O (g_v (i := 0)) g_int) g_str) (ss_cons (g_asg (g_op .add (g_v (i := 2)) (g_idx O (g_idx O (g_v (i := 0)) g_int) (g_op .mod (g_op .div (g_v (i := 4)) g_int) (g_len O (g_idx O (g_v (i := 0)) g_int))))) (g_t O.nd (i := 2)))
  ss_nil) ss_nil)
  ss_nil))
  ss_nil))
  ss_nil))
  (ss_cons (g_for O (passes_of rfl) (g_rng1 O (g_v (i := 3))) (g_t O.nd (i := 5)) (ss_cons (g_asg (g_op .add (g_v (i := 2)) (g_idx O (g_idx O (g_v (i := 0)) g_int) (g_op .mod (g_op .add (g_len O (g_v (i := 2))) (g_v (i := 5))) (g_len O (g_idx O (g_v (i := 0)) g_int))))) (g_t O.nd (i := 2)))
  ss_nil))
  (ss_cons (ss_ret (g_v (i := 2)))
  ss_nil)))))

abbrev s__law_texts_by : Stmt := top 24
abbrev N__law_texts_by : List Str := ["_law_script", "_law_some", "_law_first", "_law_texts", "_law_at", "_law_k", "_law_place", "_law_odd", "_law_many", "_law_cut", "_law_row", "_law_j"]
def m__law_texts_by : List MS := [.asg (.nm 1) (.cst (.str [97, 98, 99, 100, 101, 102, 103, 104, 105, 106, 107, 108, 109, 110, 111, 112, 113, 114, 115, 116, 117, 118, 119, 120, 121, 122])), .asg (.nm 2) (.call E__law_cell_at [(.var 0), (.cst (.int 0))]), .asgF 3 (.lst []), .asg (.nm 4) (.bin .mod (.var 2) (.cst (.int 26))), .for (.nm 5) .rng1 [(.cst (.int 3))] [.asg (.nm 8) (.bin .mod (.bin .div (.call E__law_cell_at [(.var 0), (.cst (.int 1))]) (.idx (.lst [(.cst (.int 1)), (.cst (.int 6)), (.cst (.int 36))]) (.var 5))) (.cst (.int 6))), .app 3 (.join (.cst (.str [])) (.comp (.idx (.var 1) (.bin .mod (.bin .add (.var 4) (.var 11)) (.cst (.int 26)))) (.nm 11) .rng1 [(.var 8)] [] [11])), .asg (.nm 4) (.bin .sub (.bin .add (.var 4) (.var 8)) (.b1 .int (.and [(.cmp .eq (.bin .mod (.bin .div (.var 2) (.cst (.int 26))) (.cst (.int 5))) (.var 5)), (.cmp .gt (.var 8) (.cst (.int 0)))])))], .asg (.nm 6) (.bin .mod (.bin .div (.var 2) (.cst (.int 130))) (.cst (.int 3))), .asg (.nm 7) (.idx (.lst [(.cst (.str [65])), (.cst (.str [49])), (.cst (.str [32])), (.cst (.str [10])), (.cst (.str [45])), (.cst (.str [95])), (.cst (.str [97, 97])), (.cst (.str [97, 98])), (.cst (.str []))]) (.bin .mod (.bin .div (.var 2) (.cst (.int 390))) (.cst (.int 9)))), .ite (.cmp .eq (.bin .mod (.bin .div (.var 2) (.cst (.int 26))) (.cst (.int 5))) (.cst (.int 3))) [.asg (.nm 9) (.bin .mod (.bin .div (.var 2) (.cst (.int 3510))) (.cst (.int 5))), .asg (.nm 10) (.idx (.var 3) (.var 6)), .setI 3 (.var 6) (.bin .add (.bin .add (.sl (.var 10) [] [(.var 9)]) (.var 7)) (.sl (.var 10) [(.var 9)] []))] [], .retF (.var 3)]
def E__law_texts_by : FnE := ⟨[.im], true, runF [.im] 12 true 0 m__law_texts_by⟩
@[simp] theorem ks__law_texts_by : E__law_texts_by.ks = [.im] := rfl
theorem F__law_texts_by (ds : List D) : E__law_texts_by.F ds = runF [.im] 12 true 0 m__law_texts_by ds := rfl
theorem sc__law_texts_by : FnScope N__law_texts_by ["_law_script"] (defScope s__law_texts_by) := ⟨rfl, rfl, rfl, by decide +kernel, rfl, by decide +kernel, by decide +kernel⟩
theorem g__law_texts_by (T : Txt K mg) (G__law_cell_at : FnG P w K mg base 1 "_law_cell_at" E__law_cell_at) {f : Addr} {fd : FuncData} (F : L2.Fun K "_law_texts_by" "_law_texts_by" s__law_texts_by f fd) (hm : mg "_law_texts_by" = some (.ref f)) (hb : Binds K fd ["_law_script"] []) : FnG P w K mg base 2 "_law_texts_by" E__law_texts_by :=
  fn_g (k := 1) T.bas F hm hb sc__law_texts_by rfl fun cdv A outer s H E hr O =>
  (ss_cons (g_asg g_str (g_t O.nd (i := 1)))
  (ss_cons (g_asg (g_call O (G__law_cell_at.at hr (by decide)) (g_ai (g_v (i := 0)) (g_ai g_int sa_nil))) (g_t O.nd (i := 2)))
  (ss_cons (g_asgF (g_lst .nil) (g_t O.nd (i := 3)))
  (ss_cons (g_asg (g_op .mod (g_v (i := 2)) g_int) (g_t O.nd (i := 4)))
  (ss_cons (g_for O (passes_of rfl) (g_rng1 O g_int) (g_t O.nd (i := 5)) (ss_cons (g_asg (g_op .mod (g_op .div (g_call O (G__law_cell_at.at hr (by decide)) (g_ai (g_v (i := 0)) (g_ai g_int sa_nil))) (g_idx O (g_val (g_lst (g_l1 g_int (g_l1 g_int (g_l1 g_int .nil))))) (g_v (i := 5)))) g_int) (g_t O.nd (i := 8)))
  (ss_cons (g_app (g_v (i := 3)) (g_join g_str (g_val (g_comp [("_law_j", 11)] O (g_rng1 O (g_v (i := 8))) (fun _ _ _ _ _ => (g_t O.nd (i := 11))) (fun _ _ _ _ _ _ => g_if0) (fun _ _ _ _ _ O1 => (g_idx O1 (g_v (i := 1)) (g_op .mod (g_op .add (g_v (i := 4)) (g_v (i := 11))) g_int)))))))
  (ss_cons (g_asg (g_op .sub (g_op .add (g_v (i := 4)) (g_v (i := 8))) (g_toint O (g_and (g_l1 (g_cmp O .eq (g_op .mod (g_op .div (g_v (i := 2)) g_int) g_int) (g_v (i := 5))) (g_l1 (g_cmp O .gt (g_v (i := 8)) g_int) .nil))))) (g_t O.nd (i := 4)))
  ss_nil))))
  (ss_cons (g_asg (g_op .mod (g_op .div (g_v (i := 2)) g_int) g_int) (g_t O.nd (i := 6)))
  (ss_cons (g_asg (g_idx O (g_val (g_lst (g_l1 g_str (g_l1 g_str (g_l1 g_str (g_l1 g_str (g_l1 g_str (g_l1 g_str (g_l1 g_str (g_l1 g_str (g_l1 g_str .nil))))))))))) (g_op .mod (g_op .div (g_v (i := 2)) g_int) g_int)) (g_t O.nd (i := 7)))
  (ss_cons (ss_if (g_cmp O .eq (g_op .mod (g_op .div (g_v (i := 2)) g_int) g_int) g_int) (ss_cons (g_asg (g_op .mod (g_op .div (g_v (i := 2)) g_int) g_int) (g_t O.nd (i := 9)))
  (ss_cons (g_asg (g_idx O (g_v (i := 3)) (g_v (i := 6))) (g_t O.nd (i := 10)))
  (ss_cons (g_setI (g_v (i := 3)) (g_v (i := 6)) (g_op .add (g_op .add (s_sl (g_v (i := 10)) .none (.some (g_v (i := 9)))) (g_v (i := 7))) (s_sl (g_v (i := 10)) (.some (g_v (i := 9))) .none)))
  ss_nil))) ss_nil)
  (ss_cons (ss_retV (g_v (i := 3)))
  ss_nil)))))))))

abbrev s__law_good : Stmt := top 25
abbrev N__law_good : List Str := ["_law_thing", "_law_seen", "_law_part", "_law_sign"]
def m__law_good : List MS := [.ite (.or [(.not (.isi (.var 0) "tuple")), (.cmp .ne (.b1 .len (.var 0)) (.cst (.int 3)))]) [.ret (.cst (.bl false))] [], .asg (.nm 1) (.cst (.str [])), .for (.nm 2) .seq [(.var 0)] [.ite (.or [(.not (.isi (.var 2) "str")), (.cmp .gt (.b1 .len (.var 2)) (.cst (.int 4)))]) [.ret (.cst (.bl false))] [], .for (.nm 3) .seq [(.var 2)] [.ite (.or [(.cmp .notin (.var 3) (.cst (.str [97, 98, 99, 100, 101, 102, 103, 104, 105, 106, 107, 108, 109, 110, 111, 112, 113, 114, 115, 116, 117, 118, 119, 120, 121, 122]))), (.cmp .isin (.var 3) (.var 1))]) [.ret (.cst (.bl false))] [], .asg (.nm 1) (.bin .add (.var 1) (.var 3))]], .ret (.cst (.bl true))]
def E__law_good : FnE := ⟨[.im], false, runF [.im] 4 false 0 m__law_good⟩
@[simp] theorem ks__law_good : E__law_good.ks = [.im] := rfl
theorem F__law_good (ds : List D) : E__law_good.F ds = runF [.im] 4 false 0 m__law_good ds := rfl
theorem sc__law_good : FnScope N__law_good ["_law_thing"] (defScope s__law_good) := ⟨rfl, rfl, rfl, by decide +kernel, rfl, by decide +kernel, by decide +kernel⟩
theorem g__law_good (T : Txt K mg) {f : Addr} {fd : FuncData} (F : L2.Fun K "_law_good" "_law_good" s__law_good f fd) (hm : mg "_law_good" = some (.ref f)) (hb : Binds K fd ["_law_thing"] []) : FnG P w K mg base 1 "_law_good" E__law_good :=
  fn_g (k := 0) T.bas F hm hb sc__law_good rfl fun cdv A outer s H E hr O =>
  (ss_cons (ss_if (g_or (g_l1 (s_not (g_isi O (t := "tuple") (g_v (i := 0)) O.blt.tuple)) (g_l1 (g_cmp O .ne (g_len O (g_v (i := 0))) g_int) .nil))) (ss_cons (ss_ret g_bl)
  ss_nil) ss_nil)
  (ss_cons (g_asg g_str (g_t O.nd (i := 1)))
  (ss_cons (g_for O (passes_of rfl) (g_seq (g_v (i := 0))) (g_t O.nd (i := 2)) (ss_cons (ss_if (g_or (g_l1 (s_not (g_isi O (t := "str") (g_v (i := 2)) O.blt.str)) (g_l1 (g_cmp O .gt (g_len O (g_v (i := 2))) g_int) .nil))) (ss_cons (ss_ret g_bl)
  ss_nil) ss_nil)
  (ss_cons (g_for O (passes_of rfl) (g_seq (g_v (i := 2))) (g_t O.nd (i := 3)) (ss_cons (ss_if (g_or (g_l1 (g_cmp O .notin (g_v (i := 3)) g_str) (g_l1 (g_cmp O .isin (g_v (i := 3)) (g_v (i := 1))) .nil))) (ss_cons (ss_ret g_bl)
  ss_nil) ss_nil)
  (ss_cons (g_asg (g_op .add (g_v (i := 1)) (g_v (i := 3))) (g_t O.nd (i := 1)))
  ss_nil)))
  ss_nil)))
  (ss_cons (ss_ret g_bl)
  ss_nil))))

abbrev s__law_thing_by : Stmt := top 26
abbrev N__law_thing_by : List Str := ["_law_script", "_law_texts", "_law_way", "_law_place", "_law_some"]
def m__law_thing_by : List MS := [.asgF 1 (.call E__law_texts_by [(.var 0)]), .asg (.nm 2) (.bin .mod (.call E__law_cell_at [(.var 0), (.cst (.int 2))]) (.cst (.int 9))), .asg (.nm 3) (.bin .mod (.bin .div (.call E__law_cell_at [(.var 0), (.cst (.int 2))]) (.cst (.int 9))) (.cst (.int 3))), .ite (.cmp .eq (.var 2) (.cst (.int 0))) [.asg (.nm 4) (.lst [(.b1 .tuple (.sl (.var 1) [] [(.cst (.int 2))])), (.b1 .tuple (.bin .add (.var 1) (.lst [(.cst (.str []))]))), (.b1 .list (.var 1)), (.cst (.str [97, 98, 99])), (.cst .non), (.cst (.int 7)), (.tup []), .emp]), .ret (.idx (.var 4) (.bin .mod (.call E__law_cell_at [(.var 0), (.cst (.int 3))]) (.cst (.int 8))))] [], .ite (.cmp .eq (.var 2) (.cst (.int 1))) [.setI 1 (.var 3) (.idx (.lst [(.cst .non), (.cst (.int 5)), (.cst (.bl true)), (.lst [(.cst (.str [97]))]), (.tup [(.cst (.str [97]))]), .emp]) (.bin .mod (.call E__law_cell_at [(.var 0), (.cst (.int 3))]) (.cst (.int 6))))] [], .ret (.b1 .tuple (.var 1))]
def E__law_thing_by : FnE := ⟨[.im], false, runF [.im] 5 false 0 m__law_thing_by⟩
@[simp] theorem ks__law_thing_by : E__law_thing_by.ks = [.im] := rfl
theorem F__law_thing_by (ds : List D) : E__law_thing_by.F ds = runF [.im] 5 false 0 m__law_thing_by ds := rfl
theorem sc__law_thing_by : FnScope N__law_thing_by ["_law_script"] (defScope s__law_thing_by) := ⟨rfl, rfl, rfl, by decide +kernel, rfl, by decide +kernel, by decide +kernel⟩
theorem g__law_thing_by (T : Txt K mg) (G__law_cell_at : FnG P w K mg base 1 "_law_cell_at" E__law_cell_at) (G__law_texts_by : FnG P w K mg base 2 "_law_texts_by" E__law_texts_by) {f : Addr} {fd : FuncData} (F : L2.Fun K "_law_thing_by" "_law_thing_by" s__law_thing_by f fd) (hm : mg "_law_thing_by" = some (.ref f)) (hb : Binds K fd ["_law_script"] []) : FnG P w K mg base 3 "_law_thing_by" E__law_thing_by :=
  fn_g (k := 2) T.bas F hm hb sc__law_thing_by rfl fun cdv A outer s H E hr O =>
  (ss_cons (g_asgF (g_callF O (G__law_texts_by.at hr (by decide)) (g_ai (g_v (i := 0)) sa_nil)) (g_t O.nd (i := 1)))
  (ss_cons (g_asg (g_op .mod (g_call O (G__law_cell_at.at hr (by decide)) (g_ai (g_v (i := 0)) (g_ai g_int sa_nil))) g_int) (g_t O.nd (i := 2)))
  (ss_cons (g_asg (g_op .mod (g_op .div (g_call O (G__law_cell_at.at hr (by decide)) (g_ai (g_v (i := 0)) (g_ai g_int sa_nil))) g_int) g_int) (g_t O.nd (i := 3)))
  (ss_cons (ss_if (g_cmp O .eq (g_v (i := 2)) g_int) (ss_cons (g_asg (g_val (g_lst (g_l1 (g_totup O (s_sl (g_v (i := 1)) .none (.some g_int))) (g_l1 (g_totup O (g_op .add (g_v (i := 1)) (g_val (g_lst (g_l1 g_str .nil))))) (g_l1 (g_val (g_tolist O (g_v (i := 1)))) (g_l1 g_str (g_l1 g_non (g_l1 g_int (g_l1 (g_tup .nil) (g_l1 (g_val s_emp) .nil)))))))))) (g_t O.nd (i := 4)))
  (ss_cons (ss_ret (g_idx O (g_v (i := 4)) (g_op .mod (g_call O (G__law_cell_at.at hr (by decide)) (g_ai (g_v (i := 0)) (g_ai g_int sa_nil))) g_int)))
  ss_nil)) ss_nil)
  (ss_cons (ss_if (g_cmp O .eq (g_v (i := 2)) g_int) (ss_cons (g_setI (g_v (i := 1)) (g_v (i := 3)) (g_idx O (g_val (g_lst (g_l1 g_non (g_l1 g_int (g_l1 g_bl (g_l1 (g_val (g_lst (g_l1 g_str .nil))) (g_l1 (g_tup (g_l1 g_str .nil)) (g_l1 (g_val s_emp) .nil)))))))) (g_op .mod (g_call O (G__law_cell_at.at hr (by decide)) (g_ai (g_v (i := 0)) (g_ai g_int sa_nil))) g_int)))
  ss_nil) ss_nil)
  (ss_cons (ss_ret (g_totup O (g_v (i := 1))))
  ss_nil))))))

abbrev s__law_asked : Stmt := top 27
abbrev N__law_asked : List Str := ["_law_signs", "_law_word", "_law_which", "_law_e"]
def m__law_asked : List MS := [.tryA [.ite (.cmp .eq (.var 2) (.cst (.int 0))) [.ret (.cmp .isn (.call E_need_signs [(.var 0)]) (.cst .non))] [], .ret (.cmp .isn (.call E_need_word [(.var 0), (.var 1)]) (.cst .non))] 3 true [.inl (.str [114, 101, 102, 117, 115, 101, 100]), .inr (.var 2)]]
def E__law_asked : FnE := ⟨[.im, .im, .im], false, runF [.im, .im, .im] 4 false 0 m__law_asked⟩
@[simp] theorem ks__law_asked : E__law_asked.ks = [.im, .im, .im] := rfl
theorem F__law_asked (ds : List D) : E__law_asked.F ds = runF [.im, .im, .im] 4 false 0 m__law_asked ds := rfl
theorem sc__law_asked : FnScope N__law_asked ["_law_signs", "_law_word", "_law_which"] (defScope s__law_asked) := ⟨rfl, rfl, rfl, by decide +kernel, rfl, by decide +kernel, by decide +kernel⟩
theorem g__law_asked (T : Txt K mg) (EX : Exs K mg C CN) (AL : AlG P w K mg base C) (G_need_signs : FnG P w K mg base 3 "need_signs" E_need_signs) (G_need_word : FnG P w K mg base 3 "need_word" E_need_word) {f : Addr} {fd : FuncData} (F : L2.Fun K "_law_asked" "_law_asked" s__law_asked f fd) (hm : mg "_law_asked" = some (.ref f)) (hb : Binds K fd ["_law_signs", "_law_word", "_law_which"] []) : FnG P w K mg base 4 "_law_asked" E__law_asked :=
  fn_g (k := 3) T.bas F hm hb sc__law_asked rfl fun cdv A outer s H E hr O =>
  (ss_cons (ss_try rfl rfl O.nd O.tk (i := 3) rfl rfl ⟨rfl, by decide, .inl EX.nest⟩ EX (fun W' pn xe tk po => let O1 := O.tr tk
  (ss_cons (ss_if (g_cmp O1 .eq (g_v (i := 2)) g_int) (ss_cons (ss_ret (g_cmp O1 .isn (g_call O1 (G_need_signs.at hr (by decide)) (g_ai (g_v (i := 0)) sa_nil)) g_non))
  ss_nil) ss_nil)
  (ss_cons (ss_ret (g_cmp O1 .isn (g_call O1 (G_need_word.at hr (by decide)) (g_ai (g_v (i := 0)) (g_ai (g_v (i := 1)) sa_nil))) g_non))
  ss_nil)))
  (fun a oe j pn hj hz hf => (g_tup (g_l1 g_str (g_l1 (g_alone AL hr (by decide) hj hz hf (g_v (i := 3)) (g_v (i := 2))) .nil)))))
  ss_nil)

abbrev s__law_is_word : Stmt := top 28
abbrev N__law_is_word : List Str := ["_law_signs", "_law_thing", "_law_deep", "_law_sign"]
def m__law_is_word : List MS := [.ite (.not (.isi (.var 1) "str")) [.ret (.cst (.bl false))] [], .asg (.nm 2) (.cst (.int 0)), .for (.nm 3) .seq [(.var 1)] [.ite (.cmp .isin (.var 3) (.idx (.var 0) (.cst (.int 0)))) [.asg (.nm 2) (.bin .add (.var 2) (.cst (.int 1)))] [.ite (.cmp .isin (.var 3) (.idx (.var 0) (.cst (.int 1)))) [.asg (.nm 2) (.bin .sub (.var 2) (.cst (.int 1)))] [.ite (.cmp .notin (.var 3) (.idx (.var 0) (.cst (.int 2)))) [.ret (.cst (.bl false))] []]], .ite (.cmp .lt (.var 2) (.cst (.int 0))) [.ret (.cst (.bl false))] []], .ret (.cmp .eq (.var 2) (.cst (.int 0)))]
def E__law_is_word : FnE := ⟨[.im, .im], false, runF [.im, .im] 4 false 0 m__law_is_word⟩
@[simp] theorem ks__law_is_word : E__law_is_word.ks = [.im, .im] := rfl
theorem F__law_is_word (ds : List D) : E__law_is_word.F ds = runF [.im, .im] 4 false 0 m__law_is_word ds := rfl
theorem sc__law_is_word : FnScope N__law_is_word ["_law_signs", "_law_thing"] (defScope s__law_is_word) := ⟨rfl, rfl, rfl, by decide +kernel, rfl, by decide +kernel, by decide +kernel⟩
theorem g__law_is_word (T : Txt K mg) {f : Addr} {fd : FuncData} (F : L2.Fun K "_law_is_word" "_law_is_word" s__law_is_word f fd) (hm : mg "_law_is_word" = some (.ref f)) (hb : Binds K fd ["_law_signs", "_law_thing"] []) : FnG P w K mg base 1 "_law_is_word" E__law_is_word :=
  fn_g (k := 0) T.bas F hm hb sc__law_is_word rfl fun cdv A outer s H E hr O =>
  (ss_cons (ss_if (s_not (g_isi O (t := "str") (g_v (i := 1)) O.blt.str)) (ss_cons (ss_ret g_bl)
  ss_nil) ss_nil)
  (ss_cons (g_asg g_int (g_t O.nd (i := 2)))
  (ss_cons (g_for O (passes_of rfl) (g_seq (g_v (i := 1))) (g_t O.nd (i := 3)) (ss_cons (ss_if (g_cmp O .isin (g_v (i := 3)) (g_idx O (g_v (i := 0)) g_int)) (ss_cons (g_asg (g_op .add (g_v (i := 2)) g_int) (g_t O.nd (i := 2)))
  ss_nil) (ss_cons (ss_if (g_cmp O .isin (g_v (i := 3)) (g_idx O (g_v (i := 0)) g_int)) (ss_cons (g_asg (g_op .sub (g_v (i := 2)) g_int) (g_t O.nd (i := 2)))
  ss_nil) (ss_cons (ss_if (g_cmp O .notin (g_v (i := 3)) (g_idx O (g_v (i := 0)) g_int)) (ss_cons (ss_ret g_bl)
  ss_nil) ss_nil)
  ss_nil))
  ss_nil))
  (ss_cons (ss_if (g_cmp O .lt (g_v (i := 2)) g_int) (ss_cons (ss_ret g_bl)
  ss_nil) ss_nil)
  ss_nil)))
  (ss_cons (ss_ret (g_cmp O .eq (g_v (i := 2)) g_int))
  ss_nil))))

abbrev s__law_bent : Stmt := top 29
abbrev N__law_bent : List Str := ["_law_word", "_law_signs", "_law_cell", "_law_at", "_law_every", "_law_sign"]
def m__law_bent : List MS := [.asg (.nm 3) (.bin .mod (.bin .div (.var 2) (.cst (.int 6))) (.bin .add (.b1 .len (.var 0)) (.cst (.int 1)))), .asg (.nm 4) (.bin .add (.bin .add (.bin .add (.idx (.var 1) (.cst (.int 0))) (.idx (.var 1) (.cst (.int 1)))) (.idx (.var 1) (.cst (.int 2)))) (.cst (.str [65]))), .asg (.nm 5) (.idx (.var 4) (.bin .mod (.bin .div (.var 2) (.cst (.int 66))) (.b1 .len (.var 4)))), .ite (.cmp .eq (.bin .mod (.var 2) (.cst (.int 6))) (.cst (.int 1))) [.ret (.bin .add (.bin .add (.sl (.var 0) [] [(.var 3)]) (.var 5)) (.sl (.var 0) [(.var 3)] []))] [], .ite (.cmp .eq (.bin .mod (.var 2) (.cst (.int 6))) (.cst (.int 2))) [.ret (.bin .add (.sl (.var 0) [] [(.var 3)]) (.sl (.var 0) [(.bin .add (.var 3) (.cst (.int 1)))] []))] [], .ite (.cmp .eq (.bin .mod (.var 2) (.cst (.int 6))) (.cst (.int 3))) [.ret (.bin .add (.bin .add (.sl (.var 0) [] [(.var 3)]) (.var 5)) (.sl (.var 0) [(.bin .add (.var 3) (.cst (.int 1)))] []))] [], .ite (.cmp .eq (.bin .mod (.var 2) (.cst (.int 6))) (.cst (.int 4))) [.ret (.idx (.lst [(.cst .non), (.cst (.int 5)), (.cst (.bl true)), (.b1 .list (.var 0)), (.tup [(.var 0)]), .emp, (.bin .add (.var 0) (.cst (.str [10]))), (.bin .add (.var 0) (.cst (.str [32])))]) (.bin .mod (.bin .div (.var 2) (.cst (.int 6))) (.cst (.int 8))))] [], .ite (.cmp .eq (.bin .mod (.var 2) (.cst (.int 6))) (.cst (.int 5))) [.ret (.rev (.var 0))] [], .ret (.var 0)]
def E__law_bent : FnE := ⟨[.im, .im, .im], false, runF [.im, .im, .im] 6 false 0 m__law_bent⟩
@[simp] theorem ks__law_bent : E__law_bent.ks = [.im, .im, .im] := rfl
theorem F__law_bent (ds : List D) : E__law_bent.F ds = runF [.im, .im, .im] 6 false 0 m__law_bent ds := rfl
theorem sc__law_bent : FnScope N__law_bent ["_law_word", "_law_signs", "_law_cell"] (defScope s__law_bent) := ⟨rfl, rfl, rfl, by decide +kernel, rfl, by decide +kernel, by decide +kernel⟩
theorem g__law_bent (T : Txt K mg) {f : Addr} {fd : FuncData} (F : L2.Fun K "_law_bent" "_law_bent" s__law_bent f fd) (hm : mg "_law_bent" = some (.ref f)) (hb : Binds K fd ["_law_word", "_law_signs", "_law_cell"] []) : FnG P w K mg base 1 "_law_bent" E__law_bent :=
  fn_g (k := 0) T.bas F hm hb sc__law_bent rfl fun cdv A outer s H E hr O =>
  (ss_cons (g_asg (g_op .mod (g_op .div (g_v (i := 2)) g_int) (g_op .add (g_len O (g_v (i := 0))) g_int)) (g_t O.nd (i := 3)))
  (ss_cons (g_asg (g_op .add (g_op .add (g_op .add (g_idx O (g_v (i := 1)) g_int) (g_idx O (g_v (i := 1)) g_int)) (g_idx O (g_v (i := 1)) g_int)) g_str) (g_t O.nd (i := 4)))
  (ss_cons (g_asg (g_idx O (g_v (i := 4)) (g_op .mod (g_op .div (g_v (i := 2)) g_int) (g_len O (g_v (i := 4))))) (g_t O.nd (i := 5)))
  (ss_cons (ss_if (g_cmp O .eq (g_op .mod (g_v (i := 2)) g_int) g_int) (ss_cons (ss_ret (g_op .add (g_op .add (s_sl (g_v (i := 0)) .none (.some (g_v (i := 3)))) (g_v (i := 5))) (s_sl (g_v (i := 0)) (.some (g_v (i := 3))) .none)))
  ss_nil) ss_nil)
  (ss_cons (ss_if (g_cmp O .eq (g_op .mod (g_v (i := 2)) g_int) g_int) (ss_cons (ss_ret (g_op .add (s_sl (g_v (i := 0)) .none (.some (g_v (i := 3)))) (s_sl (g_v (i := 0)) (.some (g_op .add (g_v (i := 3)) g_int)) .none)))
  ss_nil) ss_nil)
  (ss_cons (ss_if (g_cmp O .eq (g_op .mod (g_v (i := 2)) g_int) g_int) (ss_cons (ss_ret (g_op .add (g_op .add (s_sl (g_v (i := 0)) .none (.some (g_v (i := 3)))) (g_v (i := 5))) (s_sl (g_v (i := 0)) (.some (g_op .add (g_v (i := 3)) g_int)) .none)))
  ss_nil) ss_nil)
  (ss_cons (ss_if (g_cmp O .eq (g_op .mod (g_v (i := 2)) g_int) g_int) (ss_cons (ss_ret (g_idx O (g_val (g_lst (g_l1 g_non (g_l1 g_int (g_l1 g_bl (g_l1 (g_val (g_tolist O (g_v (i := 0)))) (g_l1 (g_tup (g_l1 (g_v (i := 0)) .nil)) (g_l1 (g_val s_emp) (g_l1 (g_op .add (g_v (i := 0)) g_str) (g_l1 (g_op .add (g_v (i := 0)) g_str) .nil)))))))))) (g_op .mod (g_op .div (g_v (i := 2)) g_int) g_int)))
  ss_nil) ss_nil)
  (ss_cons (ss_if (g_cmp O .eq (g_op .mod (g_v (i := 2)) g_int) g_int) (ss_cons (ss_ret (g_rev (g_v (i := 0))))
  ss_nil) ss_nil)
  (ss_cons (ss_ret (g_v (i := 0)))
  ss_nil)))))))))

abbrev s_law : Stmt := top 30
abbrev N_law : List Str := ["_law_script", "_law_thing", "_law_turn", "_law_signs", "_law_cells", "_law_word", "_law_sign", "_law_odd", "_law_due", "_law_kinds", "_law_cell", "_law_kind", "_law_part"]
def m_law : List MS := [.asg (.nm 1) (.call E__law_thing_by [(.var 0)]), .for (.nm 2) .rng1 [(.cst (.int 2))] [.asg (.nm 8) (.ife (.call E__law_good [(.var 1)]) (.cst (.bl true)) (.tup [(.cst (.str [114, 101, 102, 117, 115, 101, 100])), (.cst (.bl true))])), .ite (.cmp .ne (.call E__law_asked [(.var 1), (.cst (.str [])), (.cst (.int 0))]) (.var 8)) [.ret (.cst (.bl false))] []], .asg (.nm 3) (.call E__law_signs_by [(.call E__law_cell_at [(.var 0), (.cst (.int 4))])]), .asg (.nm 4) (.comp (.call E__law_mixed [(.var 10), (.cst (.int 3))]) (.nm 10) .seq [(.sl (.var 0) [(.cst (.int 6))] [(.cst (.int 46))])] [] [10]), .asg (.nm 5) (.call E__law_bent [(.call E__law_word_by [(.var 3), (.var 4)]), (.var 3), (.call E__law_mixed [(.call E__law_cell_at [(.var 0), (.cst (.int 5))]), (.cst (.int 1))])]), .for (.nm 2) .rng1 [(.cst (.int 2))] [.asg (.nm 8) (.ife (.call E__law_is_word [(.var 3), (.var 5)]) (.cst (.bl true)) (.tup [(.cst (.str [114, 101, 102, 117, 115, 101, 100])), (.cst (.bl true))])), .ite (.cmp .ne (.call E__law_asked [(.var 3), (.var 5), (.cst (.int 1))]) (.var 8)) [.ret (.cst (.bl false))] []], .for (.nm 6) .seq [(.cst (.str [97, 98, 99, 100, 101, 102, 103, 104, 105, 106, 107, 108, 109, 110, 111, 112, 113, 114, 115, 116, 117, 118, 119, 120, 121, 122]))] [.asg (.nm 9) (.bin .add (.comp (.var 11) (.tp [11, 12]) .zip [(.tup [(.cst (.str [111, 112, 101, 110])), (.cst (.str [99, 108, 111, 115, 101])), (.cst (.str [111, 110]))]), (.var 3)] [(.cmp .isin (.var 6) (.var 12))] [11, 12]) (.lst [(.cst (.str []))])), .ite (.cmp .ne (.call E_kind_of [(.var 3), (.var 6)]) (.idx (.var 9) (.cst (.int 0)))) [.ret (.cst (.bl false))] []], .asg (.nm 7) (.idx (.lst [(.cst (.str [])), (.cst (.str [65])), (.cst (.str [32])), (.cst .non), (.cst (.int 5)), (.cst (.bl true)), (.lst [(.cst (.str [97]))]), (.bin .add (.bin .add (.bin .add (.idx (.var 3) (.cst (.int 0))) (.idx (.var 3) (.cst (.int 1)))) (.idx (.var 3) (.cst (.int 2)))) (.cst (.str [97, 97])))]) (.bin .mod (.call E__law_cell_at [(.var 0), (.cst (.int 5))]) (.cst (.int 8)))), .ret (.and [(.cmp .eq (.call E_kind_of [(.var 3), (.var 7)]) (.cst (.str []))), (.isi (.call E_kind_of [(.var 3), (.var 7)]) "str")])]
def E_law : FnE := ⟨[.im], false, runF [.im] 13 false 0 m_law⟩
@[simp] theorem ks_law : E_law.ks = [.im] := rfl
theorem F_law (ds : List D) : E_law.F ds = runF [.im] 13 false 0 m_law ds := rfl
theorem sc_law : FnScope N_law ["_law_script"] (defScope s_law) := ⟨rfl, rfl, rfl, by decide +kernel, rfl, by decide +kernel, by decide +kernel⟩
theorem g_law (T : Txt K mg) (G__law_asked : FnG P w K mg base 4 "_law_asked" E__law_asked) (G__law_bent : FnG P w K mg base 1 "_law_bent" E__law_bent) (G__law_cell_at : FnG P w K mg base 1 "_law_cell_at" E__law_cell_at) (G__law_good : FnG P w K mg base 1 "_law_good" E__law_good) (G__law_is_word : FnG P w K mg base 1 "_law_is_word" E__law_is_word) (G__law_mixed : FnG P w K mg base 1 "_law_mixed" E__law_mixed) (G__law_signs_by : FnG P w K mg base 1 "_law_signs_by" E__law_signs_by) (G__law_thing_by : FnG P w K mg base 3 "_law_thing_by" E__law_thing_by) (G__law_word_by : FnG P w K mg base 1 "_law_word_by" E__law_word_by) (G_kind_of : FnG P w K mg base 1 "kind_of" E_kind_of) {f : Addr} {fd : FuncData} (F : L2.Fun K "law" "law" s_law f fd) : FnOk P w K mg base (L2N.CX P w) 5 f fd ["_law_script"] (spF ⟨P, w, K, mg⟩ E_law) :=
  fn_gL (k := 4) T.bas F sc_law rfl fun cdv A outer s H E hr O =>
  (ss_cons (g_asg (g_call O (G__law_thing_by.at hr (by decide)) (g_ai (g_v (i := 0)) sa_nil)) (g_t O.nd (i := 1)))
  (ss_cons (g_for O (passes_of rfl) (g_rng1 O g_int) (g_t O.nd (i := 2)) (ss_cons (g_asg (s_ife (g_call O (G__law_good.at hr (by decide)) (g_ai (g_v (i := 1)) sa_nil)) g_bl (g_tup (g_l1 g_str (g_l1 g_bl .nil)))) (g_t O.nd (i := 8)))
  (ss_cons (ss_if (g_cmp O .ne (g_call O (G__law_asked.at hr (by decide)) (g_ai (g_v (i := 1)) (g_ai g_str (g_ai g_int sa_nil)))) (g_v (i := 8))) (ss_cons (ss_ret g_bl)
  ss_nil) ss_nil)
  ss_nil)))
  (ss_cons (g_asg (g_call O (G__law_signs_by.at hr (by decide)) (g_ai (g_call O (G__law_cell_at.at hr (by decide)) (g_ai (g_v (i := 0)) (g_ai g_int sa_nil))) sa_nil)) (g_t O.nd (i := 3)))
  (ss_cons (ss_lc (g_lcS (i := 4) [("_law_cell", 10)] O (g_seq (s_sl (g_v (i := 0)) (.some g_int) (.some g_int))) (fun _ _ _ _ _ => (g_t O.nd (i := 10))) (fun _ _ _ _ _ _ => g_if0) (fun _ _ _ _ _ O1 => (g_call O1 (G__law_mixed.at hr (by decide)) (g_ai (g_v (i := 10)) (g_ai g_int sa_nil))))))
  (ss_cons (g_asg (g_call O (G__law_bent.at hr (by decide)) (g_ai (g_call O (G__law_word_by.at hr (by decide)) (g_ai (g_v (i := 3)) (g_ai (g_v (i := 4)) sa_nil))) (g_ai (g_v (i := 3)) (g_ai (g_call O (G__law_mixed.at hr (by decide)) (g_ai (g_call O (G__law_cell_at.at hr (by decide)) (g_ai (g_v (i := 0)) (g_ai g_int sa_nil))) (g_ai g_int sa_nil))) sa_nil)))) (g_t O.nd (i := 5)))
  (ss_cons (g_for O (passes_of rfl) (g_rng1 O g_int) (g_t O.nd (i := 2)) (ss_cons (g_asg (s_ife (g_call O (G__law_is_word.at hr (by decide)) (g_ai (g_v (i := 3)) (g_ai (g_v (i := 5)) sa_nil))) g_bl (g_tup (g_l1 g_str (g_l1 g_bl .nil)))) (g_t O.nd (i := 8)))
  (ss_cons (ss_if (g_cmp O .ne (g_call O (G__law_asked.at hr (by decide)) (g_ai (g_v (i := 3)) (g_ai (g_v (i := 5)) (g_ai g_int sa_nil)))) (g_v (i := 8))) (ss_cons (ss_ret g_bl)
  ss_nil) ss_nil)
  ss_nil)))
  (ss_cons (g_for O (passes_of rfl) (g_seq g_str) (g_t O.nd (i := 6)) (ss_cons (g_asg (g_op .add (g_val (g_comp [("_law_kind", 11), ("_law_part", 12)] O (g_zip O (g_tup (g_l1 g_str (g_l1 g_str (g_l1 g_str .nil)))) (g_v (i := 3))) (fun _ _ _ _ _ => (g_tt (g_t1 O.nd (i := 11) (g_t1 O.nd (i := 12) g_t0)))) (fun _ _ _ _ _ O2 => g_if1 (g_cmp O2 .isin (g_v (i := 6)) (g_v (i := 12)))) (fun _ _ _ _ _ O2 => (g_v (i := 11))))) (g_val (g_lst (g_l1 g_str .nil)))) (g_t O.nd (i := 9)))
  (ss_cons (ss_if (g_cmp O .ne (g_call O (G_kind_of.at hr (by decide)) (g_ai (g_v (i := 3)) (g_ai (g_v (i := 6)) sa_nil))) (g_idx O (g_v (i := 9)) g_int)) (ss_cons (ss_ret g_bl)
  ss_nil) ss_nil)
  ss_nil)))
  (ss_cons (g_asg (g_idx O (g_val (g_lst (g_l1 g_str (g_l1 g_str (g_l1 g_str (g_l1 g_non (g_l1 g_int (g_l1 g_bl (g_l1 (g_val (g_lst (g_l1 g_str .nil))) (g_l1 (g_op .add (g_op .add (g_op .add (g_idx O (g_v (i := 3)) g_int) (g_idx O (g_v (i := 3)) g_int)) (g_idx O (g_v (i := 3)) g_int)) g_str) .nil)))))))))) (g_op .mod (g_call O (G__law_cell_at.at hr (by decide)) (g_ai (g_v (i := 0)) (g_ai g_int sa_nil))) g_int)) (g_t O.nd (i := 7)))
  (ss_cons (ss_ret (g_and (g_l1 (g_cmp O .eq (g_call O (G_kind_of.at hr (by decide)) (g_ai (g_v (i := 3)) (g_ai (g_v (i := 7)) sa_nil))) g_str) (g_l1 (g_isi O (t := "str") (g_call O (G_kind_of.at hr (by decide)) (g_ai (g_v (i := 3)) (g_ai (g_v (i := 7)) sa_nil))) O.blt.str) .nil))))
  ss_nil)))))))))

theorem all_mk {w : World} {K : PySem.W.Frag} {h : Heap} {mg : Str → Option Value} {P : Program} {fa : Addr} (X : K.In h) (G : h.Ns mainGlobals mg) (hfa : mg "law" = some (.ref fa)) (hL : ∀ ns : List Int, ns.length ≤ 63 → E_law.F [.scr ns] = .ok (.bl true, []))
    {c0 c1 c2 c3 c4 c5 c6 CN : Addr}
    {t0 t1 : Tok}
    {f0 : Addr} {od0 an0 : Option Addr} {sl0 : Array (Option Value)} {oc0 kV0 dc0 pm0 cd0 ct0 : Value}
    {f1 : Addr} {od1 an1 : Option Addr} {sl1 : Array (Option Value)} {oc1 kV1 dc1 pm1 cd1 ct1 : Value}
    {f2 : Addr} {od2 an2 : Option Addr} {sl2 : Array (Option Value)} {oc2 kV2 dc2 pm2 cd2 ct2 : Value}
    {f3 : Addr} {od3 an3 : Option Addr} {sl3 : Array (Option Value)} {oc3 kV3 dc3 pm3 cd3 ct3 : Value}
    {f4 : Addr} {od4 an4 : Option Addr} {sl4 : Array (Option Value)} {oc4 kV4 dc4 pm4 cd4 ct4 : Value}
    {f5 : Addr} {od5 an5 : Option Addr} {sl5 : Array (Option Value)} {oc5 kV5 dc5 pm5 cd5 ct5 : Value}
    {f6 : Addr} {od6 an6 : Option Addr} {sl6 : Array (Option Value)} {oc6 kV6 dc6 pm6 cd6 ct6 : Value}
    {f7 : Addr} {od7 an7 : Option Addr} {sl7 : Array (Option Value)} {oc7 kV7 dc7 pm7 cd7 ct7 : Value}
    {f8 : Addr} {od8 an8 : Option Addr} {sl8 : Array (Option Value)} {oc8 kV8 dc8 pm8 cd8 ct8 : Value}
    {f9 : Addr} {od9 an9 : Option Addr} {sl9 : Array (Option Value)} {oc9 kV9 dc9 pm9 cd9 ct9 : Value}
    {f10 : Addr} {od10 an10 : Option Addr} {sl10 : Array (Option Value)} {oc10 kV10 dc10 pm10 cd10 ct10 : Value}
    {f11 : Addr} {od11 an11 : Option Addr} {sl11 : Array (Option Value)} {oc11 kV11 dc11 pm11 cd11 ct11 : Value}
    {f12 : Addr} {od12 an12 : Option Addr} {sl12 : Array (Option Value)} {oc12 kV12 dc12 pm12 cd12 ct12 : Value}
    {f13 : Addr} {od13 an13 : Option Addr} {sl13 : Array (Option Value)} {oc13 kV13 dc13 pm13 cd13 ct13 : Value}
    {f14 : Addr} {od14 an14 : Option Addr} {sl14 : Array (Option Value)} {oc14 kV14 dc14 pm14 cd14 ct14 : Value}
    {f15 : Addr} {od15 an15 : Option Addr} {sl15 : Array (Option Value)} {oc15 kV15 dc15 pm15 cd15 ct15 : Value}
    {f16 : Addr} {od16 an16 : Option Addr} {sl16 : Array (Option Value)} {oc16 kV16 dc16 pm16 cd16 ct16 : Value}
    {f17 : Addr} {od17 an17 : Option Addr} {sl17 : Array (Option Value)} {oc17 kV17 dc17 pm17 cd17 ct17 : Value}
    (a0 : PySem.W.nsIn K mainGlobals "are_letters" = some (some (.ref f0)))
    (l0 : K.lookup f0 = some ⟨oc0, od0, .func (PySem.W.fnOf "are_letters" "are_letters" (defArgs s_are_letters) (defBody s_are_letters) (defScope s_are_letters) .none kV0 dc0 pm0 an0 cd0 ct0), sl0⟩)
    (d0 : PySem.W.codeIn K cd0 "are_letters" = true)
    (k0 : PySem.W.keepIn K (.ref f0) = true)
    (a1 : PySem.W.nsIn K mainGlobals "is_signs" = some (some (.ref f1)))
    (l1 : K.lookup f1 = some ⟨oc1, od1, .func (PySem.W.fnOf "is_signs" "is_signs" (defArgs s_is_signs) (defBody s_is_signs) (defScope s_is_signs) .none kV1 dc1 pm1 an1 cd1 ct1), sl1⟩)
    (d1 : PySem.W.codeIn K cd1 "is_signs" = true)
    (k1 : PySem.W.keepIn K (.ref f1) = true)
    (a2 : PySem.W.nsIn K mainGlobals "need_signs" = some (some (.ref f2)))
    (l2 : K.lookup f2 = some ⟨oc2, od2, .func (PySem.W.fnOf "need_signs" "need_signs" (defArgs s_need_signs) (defBody s_need_signs) (defScope s_need_signs) .none kV2 dc2 pm2 an2 cd2 ct2), sl2⟩)
    (d2 : PySem.W.codeIn K cd2 "need_signs" = true)
    (k2 : PySem.W.keepIn K (.ref f2) = true)
    (a3 : PySem.W.nsIn K mainGlobals "kind_of" = some (some (.ref f3)))
    (l3 : K.lookup f3 = some ⟨oc3, od3, .func (PySem.W.fnOf "kind_of" "kind_of" (defArgs s_kind_of) (defBody s_kind_of) (defScope s_kind_of) .none kV3 dc3 pm3 an3 cd3 ct3), sl3⟩)
    (d3 : PySem.W.codeIn K cd3 "kind_of" = true)
    (k3 : PySem.W.keepIn K (.ref f3) = true)
    (a4 : PySem.W.nsIn K mainGlobals "is_nested" = some (some (.ref f4)))
    (l4 : K.lookup f4 = some ⟨oc4, od4, .func (PySem.W.fnOf "is_nested" "is_nested" (defArgs s_is_nested) (defBody s_is_nested) (defScope s_is_nested) .none kV4 dc4 pm4 an4 cd4 ct4), sl4⟩)
    (d4 : PySem.W.codeIn K cd4 "is_nested" = true)
    (k4 : PySem.W.keepIn K (.ref f4) = true)
    (a5 : PySem.W.nsIn K mainGlobals "need_word" = some (some (.ref f5)))
    (l5 : K.lookup f5 = some ⟨oc5, od5, .func (PySem.W.fnOf "need_word" "need_word" (defArgs s_need_word) (defBody s_need_word) (defScope s_need_word) .none kV5 dc5 pm5 an5 cd5 ct5), sl5⟩)
    (d5 : PySem.W.codeIn K cd5 "need_word" = true)
    (k5 : PySem.W.keepIn K (.ref f5) = true)
    (a6 : PySem.W.nsIn K mainGlobals "_law_cell_at" = some (some (.ref f6)))
    (l6 : K.lookup f6 = some ⟨oc6, od6, .func (PySem.W.fnOf "_law_cell_at" "_law_cell_at" (defArgs s__law_cell_at) (defBody s__law_cell_at) (defScope s__law_cell_at) .none kV6 dc6 pm6 an6 cd6 ct6), sl6⟩)
    (d6 : PySem.W.codeIn K cd6 "_law_cell_at" = true)
    (k6 : PySem.W.keepIn K (.ref f6) = true)
    (a7 : PySem.W.nsIn K mainGlobals "_law_mixed" = some (some (.ref f7)))
    (l7 : K.lookup f7 = some ⟨oc7, od7, .func (PySem.W.fnOf "_law_mixed" "_law_mixed" (defArgs s__law_mixed) (defBody s__law_mixed) (defScope s__law_mixed) .none kV7 dc7 pm7 an7 cd7 ct7), sl7⟩)
    (d7 : PySem.W.codeIn K cd7 "_law_mixed" = true)
    (k7 : PySem.W.keepIn K (.ref f7) = true)
    (a8 : PySem.W.nsIn K mainGlobals "_law_alone" = some (some (.ref f8)))
    (l8 : K.lookup f8 = some ⟨oc8, od8, .func (PySem.W.fnOf "_law_alone" "_law_alone" (defArgs s__law_alone) (defBody s__law_alone) (defScope s__law_alone) .none kV8 dc8 pm8 an8 cd8 ct8), sl8⟩)
    (d8 : PySem.W.codeIn K cd8 "_law_alone" = true)
    (k8 : PySem.W.keepIn K (.ref f8) = true)
    (a9 : PySem.W.nsIn K mainGlobals "_law_signs_by" = some (some (.ref f9)))
    (l9 : K.lookup f9 = some ⟨oc9, od9, .func (PySem.W.fnOf "_law_signs_by" "_law_signs_by" (defArgs s__law_signs_by) (defBody s__law_signs_by) (defScope s__law_signs_by) .none kV9 dc9 pm9 an9 cd9 ct9), sl9⟩)
    (d9 : PySem.W.codeIn K cd9 "_law_signs_by" = true)
    (k9 : PySem.W.keepIn K (.ref f9) = true)
    (a10 : PySem.W.nsIn K mainGlobals "_law_word_by" = some (some (.ref f10)))
    (l10 : K.lookup f10 = some ⟨oc10, od10, .func (PySem.W.fnOf "_law_word_by" "_law_word_by" (defArgs s__law_word_by) (defBody s__law_word_by) (defScope s__law_word_by) .none kV10 dc10 pm10 an10 cd10 ct10), sl10⟩)
    (d10 : PySem.W.codeIn K cd10 "_law_word_by" = true)
    (k10 : PySem.W.keepIn K (.ref f10) = true)
    (a11 : PySem.W.nsIn K mainGlobals "_law_texts_by" = some (some (.ref f11)))
    (l11 : K.lookup f11 = some ⟨oc11, od11, .func (PySem.W.fnOf "_law_texts_by" "_law_texts_by" (defArgs s__law_texts_by) (defBody s__law_texts_by) (defScope s__law_texts_by) .none kV11 dc11 pm11 an11 cd11 ct11), sl11⟩)
    (d11 : PySem.W.codeIn K cd11 "_law_texts_by" = true)
    (k11 : PySem.W.keepIn K (.ref f11) = true)
    (a12 : PySem.W.nsIn K mainGlobals "_law_good" = some (some (.ref f12)))
    (l12 : K.lookup f12 = some ⟨oc12, od12, .func (PySem.W.fnOf "_law_good" "_law_good" (defArgs s__law_good) (defBody s__law_good) (defScope s__law_good) .none kV12 dc12 pm12 an12 cd12 ct12), sl12⟩)
    (d12 : PySem.W.codeIn K cd12 "_law_good" = true)
    (k12 : PySem.W.keepIn K (.ref f12) = true)
    (a13 : PySem.W.nsIn K mainGlobals "_law_thing_by" = some (some (.ref f13)))
    (l13 : K.lookup f13 = some ⟨oc13, od13, .func (PySem.W.fnOf "_law_thing_by" "_law_thing_by" (defArgs s__law_thing_by) (defBody s__law_thing_by) (defScope s__law_thing_by) .none kV13 dc13 pm13 an13 cd13 ct13), sl13⟩)
    (d13 : PySem.W.codeIn K cd13 "_law_thing_by" = true)
    (k13 : PySem.W.keepIn K (.ref f13) = true)
    (a14 : PySem.W.nsIn K mainGlobals "_law_asked" = some (some (.ref f14)))
    (l14 : K.lookup f14 = some ⟨oc14, od14, .func (PySem.W.fnOf "_law_asked" "_law_asked" (defArgs s__law_asked) (defBody s__law_asked) (defScope s__law_asked) .none kV14 dc14 pm14 an14 cd14 ct14), sl14⟩)
    (d14 : PySem.W.codeIn K cd14 "_law_asked" = true)
    (k14 : PySem.W.keepIn K (.ref f14) = true)
    (a15 : PySem.W.nsIn K mainGlobals "_law_is_word" = some (some (.ref f15)))
    (l15 : K.lookup f15 = some ⟨oc15, od15, .func (PySem.W.fnOf "_law_is_word" "_law_is_word" (defArgs s__law_is_word) (defBody s__law_is_word) (defScope s__law_is_word) .none kV15 dc15 pm15 an15 cd15 ct15), sl15⟩)
    (d15 : PySem.W.codeIn K cd15 "_law_is_word" = true)
    (k15 : PySem.W.keepIn K (.ref f15) = true)
    (a16 : PySem.W.nsIn K mainGlobals "_law_bent" = some (some (.ref f16)))
    (l16 : K.lookup f16 = some ⟨oc16, od16, .func (PySem.W.fnOf "_law_bent" "_law_bent" (defArgs s__law_bent) (defBody s__law_bent) (defScope s__law_bent) .none kV16 dc16 pm16 an16 cd16 ct16), sl16⟩)
    (d16 : PySem.W.codeIn K cd16 "_law_bent" = true)
    (k16 : PySem.W.keepIn K (.ref f16) = true)
    (a17 : PySem.W.nsIn K mainGlobals "law" = some (some (.ref f17)))
    (l17 : K.lookup f17 = some ⟨oc17, od17, .func (PySem.W.fnOf "law" "law" (defArgs s_law) (defBody s_law) (defScope s_law) .none kV17 dc17 pm17 an17 cd17 ct17), sl17⟩)
    (d17 : PySem.W.codeIn K cd17 "law" = true)
    (k17 : PySem.W.keepIn K (.ref f17) = true)
    (q0 : PySem.W.nsIn K mainGlobals "LETTERS" = some (some (.str "abcdefghijklmnopqrstuvwxyz" t0)))
    (q1 : PySem.W.nsIn K mainGlobals "MOST_SIGNS" = some (some (.int 4 t1)))
    (z_len : PySem.W.nsIn K mainGlobals "len" = some none)
    (z_all : PySem.W.nsIn K mainGlobals "all" = some none)
    (z_any : PySem.W.nsIn K mainGlobals "any" = some none)
    (z_int : PySem.W.nsIn K mainGlobals "int" = some none)
    (z_tuple : PySem.W.nsIn K mainGlobals "tuple" = some none)
    (z_list : PySem.W.nsIn K mainGlobals "list" = some none)
    (z_isinstance : PySem.W.nsIn K mainGlobals "isinstance" = some none)
    (z_range : PySem.W.nsIn K mainGlobals "range" = some none)
    (z_zip : PySem.W.nsIn K mainGlobals "zip" = some none)
    (z_enumerate : PySem.W.nsIn K mainGlobals "enumerate" = some none)
    (z_set : PySem.W.nsIn K mainGlobals "set" = some none)
    (z_str : PySem.W.nsIn K mainGlobals "str" = some none)
    (z_bool : PySem.W.nsIn K mainGlobals "bool" = some none)
    (z_V : PySem.W.nsIn K mainGlobals "ValueError" = some none)
    (z_M : PySem.W.nsIn K mainGlobals "Machine" = some none)
    (gs : PySem.W.specialIn K (.builtin "object.__class__") "__get__" = some (some (.builtin "getset_descriptor.__get__")))
    (tk : PySem.W.takesIn K (.builtin "object.__class__") = some true)
    (e0 : PySem.W.nsIn K mainGlobals "BadSigns" = some (some (.ref c0)))
    (eA0 : PySem.W.excIn K c0 [.type "ValueError", .type "Exception", .type "BaseException", .type "object"] "ValueError.__new__" = true)
    (eB0 : PySem.W.keepIn K (.ref c0) = true)
    (eC0 : PySem.W.subIn K (.ref c0) (.type "BaseException") = some true)
    (eD0 : PySem.W.typeIn K (.ref c0) = some (.type "type"))
    (eE0 : PySem.W.isClsIn K c0 = true)
    (eF0 : PySem.W.findIn K (.ref c0) "__getattribute__" = some (some (.builtin "BaseException.__getattribute__")))
    (eG0 : PySem.W.findIn K (.ref c0) "__getattr__" = some none)
    (eH0 : PySem.W.hasDictIn K c0 = true)
    (eI0 : PySem.W.findIn K (.ref c0) "__class__" = some (some (.builtin "object.__class__")))
    (eJ0 : PySem.W.mroIn K c0 (.type "object") = some true)
    (eK0 : PySem.W.subIn K (.ref c0) (.type "ValueError") = some true)
    (e1 : PySem.W.nsIn K mainGlobals "BadWord" = some (some (.ref c1)))
    (eA1 : PySem.W.excIn K c1 [.type "ValueError", .type "Exception", .type "BaseException", .type "object"] "ValueError.__new__" = true)
    (eB1 : PySem.W.keepIn K (.ref c1) = true)
    (eC1 : PySem.W.subIn K (.ref c1) (.type "BaseException") = some true)
    (eD1 : PySem.W.typeIn K (.ref c1) = some (.type "type"))
    (eE1 : PySem.W.isClsIn K c1 = true)
    (eF1 : PySem.W.findIn K (.ref c1) "__getattribute__" = some (some (.builtin "BaseException.__getattribute__")))
    (eG1 : PySem.W.findIn K (.ref c1) "__getattr__" = some none)
    (eH1 : PySem.W.hasDictIn K c1 = true)
    (eI1 : PySem.W.findIn K (.ref c1) "__class__" = some (some (.builtin "object.__class__")))
    (eJ1 : PySem.W.mroIn K c1 (.type "object") = some true)
    (eK1 : PySem.W.subIn K (.ref c1) (.type "ValueError") = some true)
    (e2 : PySem.W.nsIn K mainGlobals "BadMachine" = some (some (.ref c2)))
    (eA2 : PySem.W.excIn K c2 [.type "ValueError", .type "Exception", .type "BaseException", .type "object"] "ValueError.__new__" = true)
    (eB2 : PySem.W.keepIn K (.ref c2) = true)
    (eC2 : PySem.W.subIn K (.ref c2) (.type "BaseException") = some true)
    (eD2 : PySem.W.typeIn K (.ref c2) = some (.type "type"))
    (eE2 : PySem.W.isClsIn K c2 = true)
    (eF2 : PySem.W.findIn K (.ref c2) "__getattribute__" = some (some (.builtin "BaseException.__getattribute__")))
    (eG2 : PySem.W.findIn K (.ref c2) "__getattr__" = some none)
    (eH2 : PySem.W.hasDictIn K c2 = true)
    (eI2 : PySem.W.findIn K (.ref c2) "__class__" = some (some (.builtin "object.__class__")))
    (eJ2 : PySem.W.mroIn K c2 (.type "object") = some true)
    (eK2 : PySem.W.subIn K (.ref c2) (.type "ValueError") = some true)
    (e3 : PySem.W.nsIn K mainGlobals "TooMany" = some (some (.ref c3)))
    (eA3 : PySem.W.excIn K c3 [.type "ValueError", .type "Exception", .type "BaseException", .type "object"] "ValueError.__new__" = true)
    (eB3 : PySem.W.keepIn K (.ref c3) = true)
    (eC3 : PySem.W.subIn K (.ref c3) (.type "BaseException") = some true)
    (eD3 : PySem.W.typeIn K (.ref c3) = some (.type "type"))
    (eE3 : PySem.W.isClsIn K c3 = true)
    (eF3 : PySem.W.findIn K (.ref c3) "__getattribute__" = some (some (.builtin "BaseException.__getattribute__")))
    (eG3 : PySem.W.findIn K (.ref c3) "__getattr__" = some none)
    (eH3 : PySem.W.hasDictIn K c3 = true)
    (eI3 : PySem.W.findIn K (.ref c3) "__class__" = some (some (.builtin "object.__class__")))
    (eJ3 : PySem.W.mroIn K c3 (.type "object") = some true)
    (eK3 : PySem.W.subIn K (.ref c3) (.type "ValueError") = some true)
    (e4 : PySem.W.nsIn K mainGlobals "NotPlain" = some (some (.ref c4)))
    (eA4 : PySem.W.excIn K c4 [.type "ValueError", .type "Exception", .type "BaseException", .type "object"] "ValueError.__new__" = true)
    (eB4 : PySem.W.keepIn K (.ref c4) = true)
    (eC4 : PySem.W.subIn K (.ref c4) (.type "BaseException") = some true)
    (eD4 : PySem.W.typeIn K (.ref c4) = some (.type "type"))
    (eE4 : PySem.W.isClsIn K c4 = true)
    (eF4 : PySem.W.findIn K (.ref c4) "__getattribute__" = some (some (.builtin "BaseException.__getattribute__")))
    (eG4 : PySem.W.findIn K (.ref c4) "__getattr__" = some none)
    (eH4 : PySem.W.hasDictIn K c4 = true)
    (eI4 : PySem.W.findIn K (.ref c4) "__class__" = some (some (.builtin "object.__class__")))
    (eJ4 : PySem.W.mroIn K c4 (.type "object") = some true)
    (eK4 : PySem.W.subIn K (.ref c4) (.type "ValueError") = some true)
    (e5 : PySem.W.nsIn K mainGlobals "Unlike" = some (some (.ref c5)))
    (eA5 : PySem.W.excIn K c5 [.type "ValueError", .type "Exception", .type "BaseException", .type "object"] "ValueError.__new__" = true)
    (eB5 : PySem.W.keepIn K (.ref c5) = true)
    (eC5 : PySem.W.subIn K (.ref c5) (.type "BaseException") = some true)
    (eD5 : PySem.W.typeIn K (.ref c5) = some (.type "type"))
    (eE5 : PySem.W.isClsIn K c5 = true)
    (eF5 : PySem.W.findIn K (.ref c5) "__getattribute__" = some (some (.builtin "BaseException.__getattribute__")))
    (eG5 : PySem.W.findIn K (.ref c5) "__getattr__" = some none)
    (eH5 : PySem.W.hasDictIn K c5 = true)
    (eI5 : PySem.W.findIn K (.ref c5) "__class__" = some (some (.builtin "object.__class__")))
    (eJ5 : PySem.W.mroIn K c5 (.type "object") = some true)
    (eK5 : PySem.W.subIn K (.ref c5) (.type "ValueError") = some true)
    (e6 : PySem.W.nsIn K mainGlobals "NoNote" = some (some (.ref c6)))
    (eA6 : PySem.W.excIn K c6 [.type "ValueError", .type "Exception", .type "BaseException", .type "object"] "ValueError.__new__" = true)
    (eB6 : PySem.W.keepIn K (.ref c6) = true)
    (eC6 : PySem.W.subIn K (.ref c6) (.type "BaseException") = some true)
    (eD6 : PySem.W.typeIn K (.ref c6) = some (.type "type"))
    (eE6 : PySem.W.isClsIn K c6 = true)
    (eF6 : PySem.W.findIn K (.ref c6) "__getattribute__" = some (some (.builtin "BaseException.__getattribute__")))
    (eG6 : PySem.W.findIn K (.ref c6) "__getattr__" = some none)
    (eH6 : PySem.W.hasDictIn K c6 = true)
    (eI6 : PySem.W.findIn K (.ref c6) "__class__" = some (some (.builtin "object.__class__")))
    (eJ6 : PySem.W.mroIn K c6 (.type "object") = some true)
    (eK6 : PySem.W.subIn K (.ref c6) (.type "ValueError") = some true)
    (e7 : PySem.W.nsIn K mainGlobals "NestError" = some (some (.ref CN)))
    (eA7 : PySem.W.excIn K CN [.type "ValueError", .type "Exception", .type "BaseException", .type "object"] "ValueError.__new__" = true)
    (eB7 : PySem.W.keepIn K (.ref CN) = true)
    (eC7 : PySem.W.subIn K (.ref CN) (.type "BaseException") = some true)
    (eD7 : PySem.W.typeIn K (.ref CN) = some (.type "type"))
    (eE7 : PySem.W.isClsIn K CN = true)
    (eF7 : PySem.W.findIn K (.ref CN) "__getattribute__" = some (some (.builtin "BaseException.__getattribute__")))
    (eG7 : PySem.W.findIn K (.ref CN) "__getattr__" = some none)
    (eH7 : PySem.W.hasDictIn K CN = true)
    (eI7 : PySem.W.findIn K (.ref CN) "__class__" = some (some (.builtin "object.__class__")))
    (eJ7 : PySem.W.mroIn K CN (.type "object") = some true)
    (eK7 : PySem.W.subIn K (.ref CN) (.type "ValueError") = some true)
    (s00 : PySem.W.subIn K (.ref c0) (.ref c0) = some true)
    (s01 : PySem.W.subIn K (.ref c0) (.ref c1) = some false)
    (s02 : PySem.W.subIn K (.ref c0) (.ref c2) = some false)
    (s03 : PySem.W.subIn K (.ref c0) (.ref c3) = some false)
    (s04 : PySem.W.subIn K (.ref c0) (.ref c4) = some false)
    (s05 : PySem.W.subIn K (.ref c0) (.ref c5) = some false)
    (s06 : PySem.W.subIn K (.ref c0) (.ref c6) = some false)
    (n0 : PySem.W.subIn K (.ref c0) (.ref CN) = some true)
    (s10 : PySem.W.subIn K (.ref c1) (.ref c0) = some false)
    (s11 : PySem.W.subIn K (.ref c1) (.ref c1) = some true)
    (s12 : PySem.W.subIn K (.ref c1) (.ref c2) = some false)
    (s13 : PySem.W.subIn K (.ref c1) (.ref c3) = some false)
    (s14 : PySem.W.subIn K (.ref c1) (.ref c4) = some false)
    (s15 : PySem.W.subIn K (.ref c1) (.ref c5) = some false)
    (s16 : PySem.W.subIn K (.ref c1) (.ref c6) = some false)
    (n1 : PySem.W.subIn K (.ref c1) (.ref CN) = some true)
    (s20 : PySem.W.subIn K (.ref c2) (.ref c0) = some false)
    (s21 : PySem.W.subIn K (.ref c2) (.ref c1) = some false)
    (s22 : PySem.W.subIn K (.ref c2) (.ref c2) = some true)
    (s23 : PySem.W.subIn K (.ref c2) (.ref c3) = some false)
    (s24 : PySem.W.subIn K (.ref c2) (.ref c4) = some false)
    (s25 : PySem.W.subIn K (.ref c2) (.ref c5) = some false)
    (s26 : PySem.W.subIn K (.ref c2) (.ref c6) = some false)
    (n2 : PySem.W.subIn K (.ref c2) (.ref CN) = some true)
    (s30 : PySem.W.subIn K (.ref c3) (.ref c0) = some false)
    (s31 : PySem.W.subIn K (.ref c3) (.ref c1) = some false)
    (s32 : PySem.W.subIn K (.ref c3) (.ref c2) = some false)
    (s33 : PySem.W.subIn K (.ref c3) (.ref c3) = some true)
    (s34 : PySem.W.subIn K (.ref c3) (.ref c4) = some false)
    (s35 : PySem.W.subIn K (.ref c3) (.ref c5) = some false)
    (s36 : PySem.W.subIn K (.ref c3) (.ref c6) = some false)
    (n3 : PySem.W.subIn K (.ref c3) (.ref CN) = some true)
    (s40 : PySem.W.subIn K (.ref c4) (.ref c0) = some false)
    (s41 : PySem.W.subIn K (.ref c4) (.ref c1) = some false)
    (s42 : PySem.W.subIn K (.ref c4) (.ref c2) = some false)
    (s43 : PySem.W.subIn K (.ref c4) (.ref c3) = some false)
    (s44 : PySem.W.subIn K (.ref c4) (.ref c4) = some true)
    (s45 : PySem.W.subIn K (.ref c4) (.ref c5) = some false)
    (s46 : PySem.W.subIn K (.ref c4) (.ref c6) = some false)
    (n4 : PySem.W.subIn K (.ref c4) (.ref CN) = some true)
    (s50 : PySem.W.subIn K (.ref c5) (.ref c0) = some false)
    (s51 : PySem.W.subIn K (.ref c5) (.ref c1) = some false)
    (s52 : PySem.W.subIn K (.ref c5) (.ref c2) = some false)
    (s53 : PySem.W.subIn K (.ref c5) (.ref c3) = some false)
    (s54 : PySem.W.subIn K (.ref c5) (.ref c4) = some false)
    (s55 : PySem.W.subIn K (.ref c5) (.ref c5) = some true)
    (s56 : PySem.W.subIn K (.ref c5) (.ref c6) = some false)
    (n5 : PySem.W.subIn K (.ref c5) (.ref CN) = some true)
    (s60 : PySem.W.subIn K (.ref c6) (.ref c0) = some false)
    (s61 : PySem.W.subIn K (.ref c6) (.ref c1) = some false)
    (s62 : PySem.W.subIn K (.ref c6) (.ref c2) = some false)
    (s63 : PySem.W.subIn K (.ref c6) (.ref c3) = some false)
    (s64 : PySem.W.subIn K (.ref c6) (.ref c4) = some false)
    (s65 : PySem.W.subIn K (.ref c6) (.ref c5) = some false)
    (s66 : PySem.W.subIn K (.ref c6) (.ref c6) = some true)
    (n6 : PySem.W.subIn K (.ref c6) (.ref CN) = some true)
    : ∃ fd : FuncData, (∀ (s : Shared) (u : Value), BindsTo s fd ⟨[u], []⟩ [("_law_script", u)]) ∧ ∀ base : Heap, K.In base → base.Ns mainGlobals mg → FnOk P w K mg base (L2N.CX P w) 5 fa fd ["_law_script"] (spTop K) := by
  have e := hfa.symm.trans (PySem.W.mg_of X G a17)
  cases e
  have W0 : ExcW K mg (Str.ofString "BadSigns") c0 := ⟨PySem.W.mg_of X G e0, eA0, eB0, eC0, eD0, eE0, eF0, eG0, eH0, eI0, eJ0, eK0⟩
  have W1 : ExcW K mg (Str.ofString "BadWord") c1 := ⟨PySem.W.mg_of X G e1, eA1, eB1, eC1, eD1, eE1, eF1, eG1, eH1, eI1, eJ1, eK1⟩
  have W2 : ExcW K mg (Str.ofString "BadMachine") c2 := ⟨PySem.W.mg_of X G e2, eA2, eB2, eC2, eD2, eE2, eF2, eG2, eH2, eI2, eJ2, eK2⟩
  have W3 : ExcW K mg (Str.ofString "TooMany") c3 := ⟨PySem.W.mg_of X G e3, eA3, eB3, eC3, eD3, eE3, eF3, eG3, eH3, eI3, eJ3, eK3⟩
  have W4 : ExcW K mg (Str.ofString "NotPlain") c4 := ⟨PySem.W.mg_of X G e4, eA4, eB4, eC4, eD4, eE4, eF4, eG4, eH4, eI4, eJ4, eK4⟩
  have W5 : ExcW K mg (Str.ofString "Unlike") c5 := ⟨PySem.W.mg_of X G e5, eA5, eB5, eC5, eD5, eE5, eF5, eG5, eH5, eI5, eJ5, eK5⟩
  have W6 : ExcW K mg (Str.ofString "NoNote") c6 := ⟨PySem.W.mg_of X G e6, eA6, eB6, eC6, eD6, eE6, eF6, eG6, eH6, eI6, eJ6, eK6⟩
  have W7 : ExcW K mg (Str.ofString "NestError") CN := ⟨PySem.W.mg_of X G e7, eA7, eB7, eC7, eD7, eE7, eF7, eG7, eH7, eI7, eJ7, eK7⟩
  have EX : Exs K mg (cAt c0 c1 c2 c3 c4 c5 c6) CN := exs_mk W0 W1 W2 W3 W4 W5 W6 W7 s00 s01 s02 s03 s04 s05 s06 s10 s11 s12 s13 s14 s15 s16 s20 s21 s22 s23 s24 s25 s26 s30 s31 s32 s33 s34 s35 s36 s40 s41 s42 s43 s44 s45 s46 s50 s51 s52 s53 s54 s55 s56 s60 s61 s62 s63 s64 s65 s66 n0 n1 n2 n3 n4 n5 n6 gs tk (PySem.W.mg_none_of X G z_V)
  have B : Bas K mg := bas_noM ⟨PySem.W.mg_none_of X G z_len, PySem.W.mg_none_of X G z_all, PySem.W.mg_none_of X G z_any, PySem.W.mg_none_of X G z_int, PySem.W.mg_none_of X G z_tuple, PySem.W.mg_none_of X G z_list, PySem.W.mg_none_of X G z_isinstance, PySem.W.mg_none_of X G z_range, PySem.W.mg_none_of X G z_zip, PySem.W.mg_none_of X G z_enumerate, PySem.W.mg_none_of X G z_set, PySem.W.mg_none_of X G z_str, PySem.W.mg_none_of X G z_bool⟩ (PySem.W.mg_none_of X G z_M)
  have T : Txt K mg := ⟨B, ⟨t0, PySem.W.mg_of X G q0⟩, ⟨t1, PySem.W.mg_of X G q1⟩, W0.exc, W1.exc⟩
  have F0 := fun_mk (st := s_are_letters) l0 d0 k0
  have F1 := fun_mk (st := s_is_signs) l1 d1 k1
  have F2 := fun_mk (st := s_need_signs) l2 d2 k2
  have F3 := fun_mk (st := s_kind_of) l3 d3 k3
  have F4 := fun_mk (st := s_is_nested) l4 d4 k4
  have F5 := fun_mk (st := s_need_word) l5 d5 k5
  have F6 := fun_mk (st := s__law_cell_at) l6 d6 k6
  have F7 := fun_mk (st := s__law_mixed) l7 d7 k7
  have F8 := fun_mk (st := s__law_alone) l8 d8 k8
  have F9 := fun_mk (st := s__law_signs_by) l9 d9 k9
  have F10 := fun_mk (st := s__law_word_by) l10 d10 k10
  have F11 := fun_mk (st := s__law_texts_by) l11 d11 k11
  have F12 := fun_mk (st := s__law_good) l12 d12 k12
  have F13 := fun_mk (st := s__law_thing_by) l13 d13 k13
  have F14 := fun_mk (st := s__law_asked) l14 d14 k14
  have F15 := fun_mk (st := s__law_is_word) l15 d15 k15
  have F16 := fun_mk (st := s__law_bent) l16 d16 k16
  have F17 := fun_mk (st := s_law) l17 d17 k17
  have b0 := F0.binds (ps := ["thing"]) fun _ _ _ _ _ _ us hl => match us, hl with | [_], _ => rfl
  have b1 := F1.binds (ps := ["thing"]) fun _ _ _ _ _ _ us hl => match us, hl with | [_], _ => rfl
  have b2 := F2.binds (ps := ["signs"]) fun _ _ _ _ _ _ us hl => match us, hl with | [_], _ => rfl
  have b3 := F3.binds (ps := ["signs", "thing"]) fun _ _ _ _ _ _ us hl => match us, hl with | [_, _], _ => rfl
  have b4 := F4.binds (ps := ["signs", "thing"]) fun _ _ _ _ _ _ us hl => match us, hl with | [_, _], _ => rfl
  have b5 := F5.binds (ps := ["signs", "word"]) fun _ _ _ _ _ _ us hl => match us, hl with | [_, _], _ => rfl
  have b6 := F6.binds (ps := ["_law_script", "_law_k"]) fun _ _ _ _ _ _ us hl => match us, hl with | [_, _], _ => rfl
  have b7 := F7.binds (ps := ["_law_cell", "_law_k"]) fun _ _ _ _ _ _ us hl => match us, hl with | [_, _], _ => rfl
  have b8 := F8.binds (ps := ["_law_e", "_law_own"]) fun _ _ _ _ _ _ us hl => match us, hl with | [_, _], _ => rfl
  have b9 := F9.binds (ps := ["_law_cell"]) fun _ _ _ _ _ _ us hl => match us, hl with | [_], _ => rfl
  have b10 := F10.binds (ps := ["_law_signs", "_law_cells"]) fun _ _ _ _ _ _ us hl => match us, hl with | [_, _], _ => rfl
  have b11 := F11.binds (ps := ["_law_script"]) fun _ _ _ _ _ _ us hl => match us, hl with | [_], _ => rfl
  have b12 := F12.binds (ps := ["_law_thing"]) fun _ _ _ _ _ _ us hl => match us, hl with | [_], _ => rfl
  have b13 := F13.binds (ps := ["_law_script"]) fun _ _ _ _ _ _ us hl => match us, hl with | [_], _ => rfl
  have b14 := F14.binds (ps := ["_law_signs", "_law_word", "_law_which"]) fun _ _ _ _ _ _ us hl => match us, hl with | [_, _, _], _ => rfl
  have b15 := F15.binds (ps := ["_law_signs", "_law_thing"]) fun _ _ _ _ _ _ us hl => match us, hl with | [_, _], _ => rfl
  have b16 := F16.binds (ps := ["_law_word", "_law_signs", "_law_cell"]) fun _ _ _ _ _ _ us hl => match us, hl with | [_, _, _], _ => rfl
  refine ⟨PySem.W.fnOf "law" "law" (defArgs s_law) (defBody s_law) (defScope s_law) .none kV17 dc17 pm17 an17 cd17 ct17, fun s v => .of_eq rfl, fun base _ _ => ?_⟩
  have G_are_letters : FnG P w K mg base 1 "are_letters" E_are_letters := g_are_letters T F0 (PySem.W.mg_of X G a0) b0
  have G_is_signs : FnG P w K mg base 2 "is_signs" E_is_signs := g_is_signs T G_are_letters F1 (PySem.W.mg_of X G a1) b1
  have G_need_signs : FnG P w K mg base 3 "need_signs" E_need_signs := g_need_signs T G_is_signs F2 (PySem.W.mg_of X G a2) b2
  have G_kind_of : FnG P w K mg base 1 "kind_of" E_kind_of := g_kind_of T F3 (PySem.W.mg_of X G a3) b3
  have G_is_nested : FnG P w K mg base 2 "is_nested" E_is_nested := g_is_nested T G_kind_of F4 (PySem.W.mg_of X G a4) b4
  have G_need_word : FnG P w K mg base 3 "need_word" E_need_word := g_need_word T G_is_nested F5 (PySem.W.mg_of X G a5) b5
  have G__law_cell_at : FnG P w K mg base 1 "_law_cell_at" E__law_cell_at := g__law_cell_at T F6 (PySem.W.mg_of X G a6) b6
  have G__law_mixed : FnG P w K mg base 1 "_law_mixed" E__law_mixed := g__law_mixed T F7 (PySem.W.mg_of X G a7) b7
  have AL : AlG P w K mg base (cAt c0 c1 c2 c3 c4 c5 c6) := g__law_alone EX T F8 (PySem.W.mg_of X G a8) b8
  have G__law_signs_by : FnG P w K mg base 1 "_law_signs_by" E__law_signs_by := g__law_signs_by T F9 (PySem.W.mg_of X G a9) b9
  have G__law_word_by : FnG P w K mg base 1 "_law_word_by" E__law_word_by := g__law_word_by T F10 (PySem.W.mg_of X G a10) b10
  have G__law_texts_by : FnG P w K mg base 2 "_law_texts_by" E__law_texts_by := g__law_texts_by T G__law_cell_at F11 (PySem.W.mg_of X G a11) b11
  have G__law_good : FnG P w K mg base 1 "_law_good" E__law_good := g__law_good T F12 (PySem.W.mg_of X G a12) b12
  have G__law_thing_by : FnG P w K mg base 3 "_law_thing_by" E__law_thing_by := g__law_thing_by T G__law_cell_at G__law_texts_by F13 (PySem.W.mg_of X G a13) b13
  have G__law_asked : FnG P w K mg base 4 "_law_asked" E__law_asked := g__law_asked T EX AL G_need_signs G_need_word F14 (PySem.W.mg_of X G a14) b14
  have G__law_is_word : FnG P w K mg base 1 "_law_is_word" E__law_is_word := g__law_is_word T F15 (PySem.W.mg_of X G a15) b15
  have G__law_bent : FnG P w K mg base 1 "_law_bent" E__law_bent := g__law_bent T F16 (PySem.W.mg_of X G a16) b16
  exact top_ok rfl rfl (g_law (P := P) (w := w) (base := base) T G__law_asked G__law_bent G__law_cell_at G__law_good G__law_is_word G__law_mixed G__law_signs_by G__law_thing_by G__law_word_by G_kind_of F17) hL
theorem walk {l : PySem.W.OpenLaw} {q : Program} {loose : List Str} {XP : (Str → Option Value) → Heap → Prop} {YP : World → Heap → Prop} {d : DefRec} {K : Params → PySem.W.Frag} (hn : l.most = some 63) (hdf : d.params.defaults = [])
    (hY : ∀ (w : World) (h : Heap), YP w h → (K w.params).In h)
    (F : ∀ (w : World) (mg : Str → Option Value) (fa : Addr) (h : Heap), (K w.params).In h → h.Ns mainGlobals mg → mg d.name = some (.ref fa) →
      ∃ fd : FuncData, (∀ (s : Shared) (u : Value), BindsTo s fd ⟨[u], []⟩ [("_law_script", u)]) ∧ ∀ base : Heap, (K w.params).In base → base.Ns mainGlobals mg → FnOk l.prog w (K w.params) mg base (L2N.CX l.prog w) 5 fa fd ["_law_script"] (spTop (K w.params))) :
    PySem.W.WalkO q loose XP YP l.row.toRowW d [] (fun f vs => PySem.call f vs) :=
  L2.walk_of (n := 63) (k := 5) (x := "_law_script") (CX := fun w => L2N.CX l.prog w) (sp := fun w => spTop (K w.params)) hn (by decide) hdf ⟨rfl, by decide, by decide⟩ hY F (fun _ _ a ns hl _ hS => ⟨a, ns, rfl, hS, hl, fun _ => rfl⟩) fun _ _ _ _ _ ⟨_, _, _, _, _, _, _, _, _, _, _, _, z⟩ => z
end
end K1

namespace K1
open NV
def tyOk : D → Bool
  | .obj _ _ => false
  | .adr _ => false
  | .scr _ => false
  | _ => true
def isLet (c : Nat) : Bool := decide (97 ≤ c) && decide (c ≤ 122)
def areL : D → Bool
  | .str s => decide (s.length ≤ 4) && s.all isLet
  | _ => false
def abc : List Nat := [97, 98, 99, 100, 101, 102, 103, 104, 105, 106, 107, 108, 109, 110, 111, 112, 113, 114, 115, 116, 117, 118, 119, 120, 121, 122]
theorem abc_mem (c : Nat) : abc.contains c = isLet c := by
  unfold abc isLet
  rw [Bool.eq_iff_iff]
  simp
  omega
theorem are_letters_eq (d : D) (h : tyOk d = true) : E_are_letters.F [d] = .ok (.bl (areL d), []) := by
  rw [F_are_letters]
  unfold runF m_are_letters
  cases d with
  | obj _ _ => cases h
  | adr _ => cases h
  | scr _ => cases h
  | str s =>
    by_cases hs : s.length ≤ 4
    · have hz : s.length ≤ szl := by unfold szl; omega
      have e := compLoop_map (elt := ev (.cmp .isin (.var 1) (.cst (.str abc)))) (ifs := evIfs []) (tg := .nm 1) (own := [1]) (ρ := [.im (.str s), .un]) (f := fun d => match d with | .str [c] => .bl (isLet c) | _ => .non) (items := s.map fun c => D.str [c]) (fun d hd => by
          obtain ⟨c, _, rfl⟩ := List.mem_map.mp hd
          simp [compStep, cmpD, inD, wiped, ← abc_mem])
      rw [List.map_map] at e
      have e1 : ((fun d => match d with | .str [c] => D.bl (isLet c) | _ => .non) ∘ fun c => D.str [c]) = fun c => D.bl (isLet c) := rfl
      rw [e1] at e
      unfold abc at e
      have e2 : ¬ (4 < (s.length : Int)) := by omega
      simp [evSs_cons, ev_comp, rho0, entOf, isiD, tyN, tyL, isiB, b1D, lenD, cmpD, iterD, itemsD, lockE, unlockE, hz, e2, e, allBl_map, areL, hs]
    · have e2 : (4 < (s.length : Int)) := by omega
      simp [evSs_cons, rho0, entOf, isiD, tyN, tyL, isiB, b1D, lenD, cmpD, e2, areL, hs]
  | _ => simp [evSs_cons, rho0, entOf, isiD, tyN, tyL, isiB, areL]
/-- what is asked of signs -/
def okT : D → Bool
  | .tup l => l.all tyOk
  | d => tyOk d
def isSg : D → Bool
  | .tup [.str a, .str b, .str c] => areL (.str a) && areL (.str b) && areL (.str c) && decide ((a ++ b ++ c).Nodup)
  | _ => false
theorem areL_str {d : D} (h : areL d = true) : ∃ s, d = .str s ∧ s.length ≤ 4 ∧ s.all isLet = true := by
  cases d with
  | str s =>
    have h : (decide (s.length ≤ 4) && s.all isLet) = true := h
    rw [Bool.and_eq_true, decide_eq_true_eq] at h
    exact ⟨s, rfl, h.1, h.2⟩
  | _ => cases h
theorem is_signs_eq (d : D) (h : okT d = true) : E_is_signs.F [d] = .ok (.bl (isSg d), []) := by
  rw [F_is_signs]
  unfold runF m_is_signs
  cases d with
  | obj _ _ => cases h
  | adr _ => cases h
  | scr _ => cases h
  | tup l =>
    match l, h with
    | [x, y, z], h =>
      have hx : tyOk x = true ∧ tyOk y = true ∧ tyOk z = true := by simpa [okT] using h
      obtain ⟨hx, hy, hz⟩ := hx
      have e := compLoop_map (elt := ev (.call E_are_letters [.var 2])) (ifs := evIfs []) (tg := .nm 2) (own := [2]) (ρ := [.im (.tup [x, y, z]), .un, .un]) (f := fun d => .bl (areL d)) (items := [x, y, z]) (fun d hd => by
        have hd' : tyOk d = true := by
          rcases List.mem_cons.mp hd with rfl | hd
          · exact hx
          · rcases List.mem_cons.mp hd with rfl | hd
            · exact hy
            · rw [List.mem_singleton.mp hd]; exact hz
        simp [compStep, are_letters_eq d hd', wiped])
      have c3 : (3 : Nat) ≤ szl := by decide
      by_cases ha : (areL x && areL y && areL z) = true
      · rw [Bool.and_eq_true, Bool.and_eq_true] at ha
        obtain ⟨⟨h1, h2⟩, h3⟩ := ha
        obtain ⟨a, rfl, a1, a2⟩ := areL_str h1
        obtain ⟨b, rfl, b1, b2⟩ := areL_str h2
        obtain ⟨c, rfl, c1, c2⟩ := areL_str h3
        have l1 : a.length + b.length ≤ szl := by unfold szl; omega
        have l2 : a.length + b.length + c.length ≤ szl := by unfold szl; omega
        have l3 : a.length + (b.length + c.length) ≤ szl := by unfold szl; omega
        have l4 : a.length + (b.length + c.length) ≤ 4000 := by omega
        have nd := metN_nodup (a ++ (b ++ c))
        simp only [List.length_append] at nd
        have e5 : ((metN (a ++ (b ++ c)) : Int) == (a.length : Int) + ((b.length : Int) + (c.length : Int))) = decide ((a ++ (b ++ c)).Nodup) := by
          rw [Bool.eq_iff_iff, decide_eq_true_eq, ← nd]
          simp
          omega
        simp [evSs_cons, ev_comp, rho0, entOf, isiD, tyN, tyL, isiB, b1D, lenD, cmpD, eqOk, eqD, D.dep, iterD, itemsD, lockE, unlockE, c3, e, allBl, h1, h2, h3, idxD, ixD, binD, addD, l1, l2, l3, l4, isSg, e5]
      · have hf : (areL x && (areL y && areL z)) = false := by simpa [Bool.and_assoc] using ha
        have hs : isSg (.tup [x, y, z]) = false := by
          cases hq : isSg (.tup [x, y, z]) with
          | false => rfl
          | true =>
            exfalso
            cases x <;> cases y <;> cases z <;> simp [isSg] at hq
            exact ha (by simp [hq])
        rw [hs]
        simp [evSs_cons, ev_comp, rho0, entOf, isiD, tyN, tyL, isiB, b1D, lenD, cmpD, eqOk, eqD, D.dep, iterD, itemsD, lockE, unlockE, c3, e, allBl, hf]
    | [], h => simp [evSs_cons, rho0, entOf, isiD, tyN, tyL, isiB, b1D, lenD, cmpD, eqOk, eqD, D.dep, isSg]
    | [x], h => simp [evSs_cons, rho0, entOf, isiD, tyN, tyL, isiB, b1D, lenD, cmpD, eqOk, eqD, D.dep, isSg]
    | [x, y], h => simp [evSs_cons, rho0, entOf, isiD, tyN, tyL, isiB, b1D, lenD, cmpD, eqOk, eqD, D.dep, isSg]
    | x :: y :: z :: w :: l, h =>
      have e : ¬ (((l.length : Int) + 1 + 1 + 1 + 1) = 3) := by omega
      simp [evSs_cons, rho0, entOf, isiD, tyN, tyL, isiB, b1D, lenD, cmpD, eqOk, eqD, D.dep, isSg, e]
  | _ => simp [evSs_cons, rho0, entOf, isiD, tyN, tyL, isiB, isSg]
end K1

namespace K1
open NV
theorem need_signs_eq (d : D) (h : okT d = true) : E_need_signs.F [d] = if isSg d then .ok (.non, []) else .exc "BadSigns" () := by
  rw [F_need_signs]
  unfold runF m_need_signs
  cases q : isSg d <;> simp [evSs_cons, rho0, entOf, is_signs_eq d h, q]
@[simp] theorem forLoop_nil (body : EvS) (tg : Tg) (ρ : Rho) : forLoop body tg [] ρ = .ok (.nx, ρ) := rfl
@[simp] theorem forLoop_cons (body : EvS) (tg : Tg) (d : D) (ds : List D) (ρ : Rho) : forLoop body tg (d :: ds) ρ = match setT tg d ρ with
    | none => .stuck
    | some ρ1 => (body ρ1).bind fun r => match r.1 with
      | .nx => forLoop body tg ds r.2
      | .ret v => .ok (.ret v, r.2) := rfl
@[simp] theorem unlockO_ok (ρ0 : Rho) (args : List ME) (f : Fl) (ρ : Rho) : unlockO ρ0 args (.ok (f, ρ)) = .ok (f, unlockE ρ0 args ρ) := rfl
abbrev sOpen : List Nat := [111, 112, 101, 110]
abbrev sClose : List Nat := [99, 108, 111, 115, 101]
abbrev sOn : List Nat := [111, 110]
def kindOf (a b c : List Nat) : D → List Nat
  | .str [x] => if x ∈ a then sOpen else if x ∈ b then sClose else if x ∈ c then sOn else []
  | _ => []
theorem kind_of_eq (a b c : List Nat) (d : D) (h : tyOk d = true) : E_kind_of.F [.tup [.str a, .str b, .str c], d] = .ok (.str (kindOf a b c d), []) := by
  rw [F_kind_of]
  unfold runF m_kind_of
  cases d with
  | obj _ _ => cases h
  | adr _ => cases h
  | scr _ => cases h
  | str s =>
    match s with
    | [] => simp [evSs_cons, rho0, entOf, isiD, tyN, tyL, isiB, b1D, lenD, cmpD, eqOk, eqD, D.dep, kindOf]
    | x :: y :: l =>
      have e : ((l.length : Int) + 1 + 1 == 1) = false := by rw [beq_eq_false_iff_ne]; omega
      simp [evSs_cons, rho0, entOf, isiD, tyN, tyL, isiB, b1D, lenD, cmpD, eqOk, eqD, D.dep, kindOf, e]
    | [x] =>
      by_cases ha : x ∈ a
      · simp [evSs_cons, evS_for, rho0, entOf, isiD, tyN, tyL, isiB, b1D, lenD, cmpD, eqOk, eqD, D.dep, kindOf, iterD, zipD, lockE, unlockE, inD, ha]
      · by_cases hb : x ∈ b
        · simp [evSs_cons, evS_for, rho0, entOf, isiD, tyN, tyL, isiB, b1D, lenD, cmpD, eqOk, eqD, D.dep, kindOf, iterD, zipD, lockE, unlockE, inD, ha, hb]
        · by_cases hc : x ∈ c
          · simp [evSs_cons, evS_for, rho0, entOf, isiD, tyN, tyL, isiB, b1D, lenD, cmpD, eqOk, eqD, D.dep, kindOf, iterD, zipD, lockE, unlockE, inD, ha, hb, hc]
          · simp [evSs_cons, evS_for, rho0, entOf, isiD, tyN, tyL, isiB, b1D, lenD, cmpD, eqOk, eqD, D.dep, kindOf, iterD, zipD, lockE, unlockE, inD, ha, hb, hc]
  | _ => simp [evSs_cons, rho0, entOf, isiD, tyN, tyL, isiB, kindOf]
/-- the reading of a word -/
def nestG (a b c : List Nat) : Int → D → Int ⊕ D := fun deep d =>
  let k := kindOf a b c d
  if k = [] then .inr (.bl false) else if k = sClose ∧ deep = 0 then .inr (.bl false) else .inl (deep + (if k = sOpen then 1 else if k = sClose then -1 else 0))
def isNest (a b c : List Nat) : D → Bool
  | .str s => match loopE (nestG a b c) 0 (s.map fun x => D.str [x]) with
    | .inl deep => decide (deep = 0)
    | .inr _ => false
  | _ => false
theorem kind_cases (a b c : List Nat) (d : D) : kindOf a b c d = [] ∨ kindOf a b c d = sOpen ∨ kindOf a b c d = sClose ∨ kindOf a b c d = sOn := by
  unfold kindOf
  split
  · split
    · simp
    · split
      · simp
      · split <;> simp
  · simp
theorem loopE_ret {S : Type} {g : S → D → S ⊕ D} {v : D} (h : ∀ s d w, g s d = .inr w → w = v) : ∀ (l : List D) (s : S) (w : D), loopE g s l = .inr w → w = v
  | [], s, w, e => by cases e
  | d :: ds, s, w, e => by
    unfold loopE at e
    cases q : g s d with
    | inl s' => rw [q] at e; exact loopE_ret h ds s' w e
    | inr u => rw [q] at e; cases e; exact h s d _ q
theorem is_nested_eq (a b c : List Nat) (d : D) (h : tyOk d = true) : E_is_nested.F [.tup [.str a, .str b, .str c], d] = .ok (.bl (isNest a b c d), []) := by
  rw [F_is_nested]
  unfold runF m_is_nested
  cases d with
  | obj _ _ => cases h
  | adr _ => cases h
  | scr _ => cases h
  | str s =>
    have fl := for_loop (body := evSs 0 [.asg (.nm 4) (.call E_kind_of [(.var 0), (.var 3)]), .ite (.or [(.cmp .eq (.var 4) (.cst (.str []))), (.and [(.cmp .eq (.var 4) (.cst (.str [99, 108, 111, 115, 101]))), (.cmp .eq (.var 2) (.cst (.int 0)))])]) [.ret (.cst (.bl false))] [], .asg (.nm 2) (.bin .add (.var 2) (.dsel [[111, 112, 101, 110], [99, 108, 111, 115, 101], [111, 110]] [1, (-1), 0] (.var 4)))])
      (tg := .nm 3) (items := s.map fun x => D.str [x]) (g := nestG a b c) (s := (0 : Int)) (ρ := [.im (.tup [.str a, .str b, .str c]), .im (.str s), .im (.int 0), .un, .un])
      (st := fun deep ρ => match ρ with
        | [x0, x1, x2, e3, e4] => x0 = .im (.tup [.str a, .str b, .str c]) ∧ x1 = .im (.str s) ∧ x2 = .im (.int deep) ∧ isUI e3 = true ∧ isUI e4 = true
        | _ => False) ⟨rfl, rfl, rfl, rfl, rfl⟩ (fun deep ρ d hd hst => by
        obtain ⟨x, _, rfl⟩ := List.mem_map.mp hd
        split at hst
        · rename_i x0 x1 x2 e3 e4
          obtain ⟨rfl, rfl, rfl, h3, h4⟩ := hst
          refine ⟨[.im (.tup [.str a, .str b, .str c]), .im (.str s), .im (.int deep), .im (.str [x]), e4], by rcases isUI_or h3 with rfl | ⟨_, rfl⟩ <;> simp, ?_⟩
          have hk := kind_of_eq a b c (.str [x]) rfl
          unfold nestG
          dsimp only
          by_cases h0 : deep = 0
          · subst h0
            rcases kind_cases a b c (.str [x]) with hq | hq | hq | hq <;> rw [hq] at hk ⊢ <;> rcases isUI_or h4 with rfl | ⟨_, rfl⟩ <;>
              simp [evSs_cons, hk, cmpD, eqOk, eqD, D.dep, binD, addD]
          · have hb : (deep == 0) = false := by simpa using h0
            rcases kind_cases a b c (.str [x]) with hq | hq | hq | hq <;> rw [hq] at hk ⊢ <;> rcases isUI_or h4 with rfl | ⟨_, rfl⟩ <;>
              simp [evSs_cons, hk, cmpD, eqOk, eqD, D.dep, binD, addD, h0, hb]
        · exact hst.elim)
    cases q : loopE (nestG a b c) 0 (s.map fun x => D.str [x]) with
    | inl deep =>
      rw [q] at fl
      obtain ⟨ρ', f1, f2⟩ := fl
      split at f2
      · rename_i x0 x1 x2 e3 e4
        obtain ⟨rfl, rfl, rfl, _, _⟩ := f2
        have e9 : (deep == 0) = decide (deep = 0) := by rw [Bool.eq_iff_iff]; simp
        simp [evSs_cons, evS_for, rho0, entOf, isiD, tyN, tyL, isiB, iterD, itemsD, lockE, unlockE, cmpD, eqOk, eqD, D.dep, isNest, q, f1, e9]
      · exact f2.elim
    | inr v =>
      rw [q] at fl
      obtain ⟨ρ', f1⟩ := fl
      have hv : v = .bl false := loopE_ret (v := .bl false) (fun s d w e => by
        unfold nestG at e
        dsimp only at e
        split at e
        · cases e; rfl
        · split at e
          · cases e; rfl
          · cases e) _ _ _ q
      subst hv
      simp [evSs_cons, evS_for, rho0, entOf, isiD, tyN, tyL, isiB, iterD, itemsD, lockE, unlockE, cmpD, eqOk, eqD, D.dep, isNest, q, f1]
  | _ => simp [evSs_cons, rho0, entOf, isiD, tyN, tyL, isiB, isNest]
theorem need_word_eq (a b c : List Nat) (d : D) (h : tyOk d = true) : E_need_word.F [.tup [.str a, .str b, .str c], d] = if isNest a b c d then .ok (.non, []) else .exc "BadWord" () := by
  rw [F_need_word]
  unfold runF m_need_word
  cases q : isNest a b c d <;> simp [evSs_cons, rho0, entOf, is_nested_eq a b c d h, q]
end K1

namespace K1
open NV
theorem cell_at_eq (ns : List Int) (k : Nat) : E__law_cell_at.F [.scr ns, .int k] = .ok (.int (ns.getD k 0), []) := by
  rw [F__law_cell_at]
  unfold runF m__law_cell_at
  by_cases h : k < ns.length
  · have h1 : (k : Int) < (ns.length : Int) := by omega
    simp [evSs_cons, rho0, entOf, b1D, lenD, cmpD, h1, idxD, ixD, h, List.getD_eq_getElem?_getD]
  · have h1 : ¬ (k : Int) < (ns.length : Int) := by omega
    have h2 : ns[k]? = none := List.getElem?_eq_none (by omega)
    simp [evSs_cons, rho0, entOf, b1D, lenD, cmpD, h1, List.getD_eq_getElem?_getD, h2]
def mixed (c k : Int) : Int := (c * 48271 + 7919 * k) % 1000003
theorem mixed_eq (c k : Int) : E__law_mixed.F [.int c, .int k] = .ok (.int (mixed c k), []) := by
  rw [F__law_mixed]
  unfold runF m__law_mixed
  simp [evSs_cons, rho0, entOf, binD, mulD, addD, modD, mixed]
theorem ix_int (l : List Int) (i : Int) (h0 : 0 ≤ i) (h1 : i < l.length) : ixD (l.map D.int) i = some (.int (l.getD i.toNat 0)) := by
  unfold ixD
  have : i.toNat < l.length := by omega
  rw [if_pos h0, List.getElem?_map, List.getD_eq_getElem?_getD, List.getElem?_eq_getElem this]
  rfl
theorem ix_abc (i : Int) (h0 : 0 ≤ i) (h1 : i < 26) : ixD abc i = some (97 + i.toNat) := by
  obtain ⟨n, rfl⟩ := Int.eq_ofNat_of_zero_le h0
  have hn : n < 26 := by omega
  unfold ixD
  rw [if_pos h0]
  have : ∀ n < 26, abc[n]? = some (97 + n) := by decide
  exact this n hn
theorem mod_b (x m : Int) (h : 0 < m) : 0 ≤ x % m ∧ x % m < m := ⟨Int.emod_nonneg _ (by omega), Int.emod_lt_of_pos _ h⟩
/-- the letters of a cell -/
def stepOf (c : Int) : Int := 1 + 2 * (c / 26 % 5)
def rowOf (c : Int) (n : Nat) : List Nat := (List.range n).map fun k : Nat => 97 + ((c + stepOf c * k) % 26).toNat
theorem rowOf_let (c : Int) (n : Nat) : (rowOf c n).all isLet = true := by
  rw [List.all_eq_true]
  intro x hx
  obtain ⟨k, _, rfl⟩ := List.mem_map.mp hx
  have := mod_b (c + stepOf c * k) 26 (by omega)
  simp [isLet]
  omega
theorem allStr_map {α : Type} (f : α → List Nat) : ∀ l : List α, allStr (l.map fun x => D.str (f x)) = some (l.map f)
  | [] => rfl
  | x :: l => by
    show (allStr (l.map fun x => D.str (f x))).map (f x :: ·) = _
    rw [allStr_map f l]
    rfl
theorem joinL_nil_sing : ∀ l : List Nat, joinL [] (l.map fun x => [x]) = l
  | [] => rfl
  | [x] => rfl
  | x :: y :: l => by
    show [x] ++ [] ++ joinL [] ((y :: l).map fun x => [x]) = _
    rw [joinL_nil_sing (y :: l)]
    rfl
theorem sum_sing : ∀ l : List Nat, (l.map (List.length ∘ fun x : Nat => [x])).sum = l.length
  | [] => rfl
  | x :: l => by simp [sum_sing l]; omega
theorem rowOf_len (c : Int) (n : Nat) : (rowOf c n).length = n := by simp [rowOf]
def oneOf (c : Int) : Int := [1, 1, 2, 0].getD (c / 130 % 4).toNat 0
def otherOf (c : Int) : Int := oneOf c + [1, 2, 1, 1, 0].getD (c / 520 % 5).toNat 0
def sgA (c : Int) : List Nat := cutD (rowOf c 6) none (some (oneOf c))
def sgB (c : Int) : List Nat := cutD (rowOf c 6) (some (oneOf c)) (some (otherOf c))
def sgC (c : Int) : List Nat := cutD (rowOf c 6) (some (otherOf c)) (some (otherOf c + c / 2600 % 3))
def sgD (c : Int) : D := .tup [.str (sgA c), .str (sgB c), .str (sgC c)]
theorem signs_by_eq (c : Int) : E__law_signs_by.F [.int c] = .ok (sgD c, []) := by
  rw [F__law_signs_by]
  have e : ∀ (e3 e4 e5 e6 : Ent), compLoop (ev (.idx (.var 1) (.bin .mod (.bin .add (.var 0) (.bin .mul (.var 2) (.var 6))) (.cst (.int 26))))) (evIfs []) (.nm 6) [6] (rngD 0 6) [.im (.int c), .im (.str abc), .im (.int (stepOf c)), .un, .un, .un, .un] =
      .ok ((rowOf c 6).map fun x => D.str [x], [.im (.int c), .im (.str abc), .im (.int (stepOf c)), .un, .un, .un, .un]) := fun _ _ _ _ => by
    have hs : (stepOf c).natAbs < 2 ^ 64 := by
      have := mod_b (c / 26) 5 (by omega)
      unfold stepOf
      omega
    have h := compLoop_map (elt := ev (.idx (.var 1) (.bin .mod (.bin .add (.var 0) (.bin .mul (.var 2) (.var 6))) (.cst (.int 26))))) (ifs := evIfs []) (tg := .nm 6) (own := [6]) (ρ := [.im (.int c), .im (.str abc), .im (.int (stepOf c)), .un, .un, .un, .un])
      (f := fun d => match d with | .int k => .str [97 + ((c + stepOf c * k) % 26).toNat] | _ => .non) (items := rngD 0 6) (fun d hd => by
        obtain ⟨k, _, rfl⟩ := List.mem_map.mp hd
        have hm := mod_b (c + stepOf c * ((0 : Int) + k)) 26 (by omega)
        have hi := ix_abc _ hm.1 hm.2
        simp only [Int.zero_add] at hi
        simp [compStep, binD, mulD, addD, modD, hs, idxD, hi, wiped])
    rw [h]
    unfold rngD rowOf
    rw [List.map_map, List.map_map]
    simp [Function.comp_def]
  have h1 := mod_b (c / 130) 4 (by omega)
  have h2 := mod_b (c / 520) 5 (by omega)
  have i1 : ixD [D.int 1, D.int 1, D.int 2, D.int 0] (c / 130 % 4) = some (.int (oneOf c)) := ix_int [1, 1, 2, 0] _ h1.1 h1.2
  have i2 : ixD [D.int 1, D.int 2, D.int 1, D.int 1, D.int 0] (c / 520 % 5) = some (.int ([1, 2, 1, 1, 0].getD (c / 520 % 5).toNat 0)) := ix_int [1, 2, 1, 1, 0] _ h2.1 h2.2
  have hl : (rngD 0 6).length ≤ szl := by unfold rngD szl; rw [List.length_map, List.length_range]; exact Nat.le_of_ble_eq_true rfl
  have hj : ((rowOf c 6).map fun x => ([x] : List Nat)) = (rowOf c 6).map fun x => [x] := rfl
  have as := allStr_map (fun x : Nat => [x]) (rowOf c 6)
  have jl := joinL_nil_sing (rowOf c 6)
  have s1 : evS 0 (.asg (.nm 1) (.cst (.str [97, 98, 99, 100, 101, 102, 103, 104, 105, 106, 107, 108, 109, 110, 111, 112, 113, 114, 115, 116, 117, 118, 119, 120, 121, 122]))) [.im (.int c), .un, .un, .un, .un, .un, .un] = .ok (.nx, [.im (.int c), .im (.str abc), .un, .un, .un, .un, .un]) := rfl
  have s2 : evS 0 (.asg (.nm 2) (.bin .add (.cst (.int 1)) (.bin .mul (.cst (.int 2)) (.bin .mod (.bin .div (.var 0) (.cst (.int 26))) (.cst (.int 5)))))) [.im (.int c), .im (.str abc), .un, .un, .un, .un, .un] = .ok (.nx, [.im (.int c), .im (.str abc), .im (.int (stepOf c)), .un, .un, .un, .un]) := by
    simp [binD, addD, mulD, divD, modD, stepOf]
  have s3 : evS 0 (.asg (.nm 3) (.join (.cst (.str [])) (.comp (.idx (.var 1) (.bin .mod (.bin .add (.var 0) (.bin .mul (.var 2) (.var 6))) (.cst (.int 26)))) (.nm 6) .rng1 [(.cst (.int 6))] [] [6]))) [.im (.int c), .im (.str abc), .im (.int (stepOf c)), .un, .un, .un, .un] = .ok (.nx, [.im (.int c), .im (.str abc), .im (.int (stepOf c)), .im (.str (rowOf c 6)), .un, .un, .un]) := by
    have e'' := e .un .un .un .un
    have hr : iterD .rng1 [.int 6] = some (rngD 0 6) := rfl
    have hle : (List.map (List.length ∘ fun x => [x]) (rowOf c 6)).sum ≤ 16777216 := by rw [sum_sing, rowOf_len]; omega
    simp [ev_comp, lockE, unlockE, hl, e'', as, jl, hr, hle]
  have s4 : evS 0 (.asg (.nm 4) (.idx (.lst [(.cst (.int 1)), (.cst (.int 1)), (.cst (.int 2)), (.cst (.int 0))]) (.bin .mod (.bin .div (.var 0) (.cst (.int 130))) (.cst (.int 4))))) [.im (.int c), .im (.str abc), .im (.int (stepOf c)), .im (.str (rowOf c 6)), .un, .un, .un] = .ok (.nx, [.im (.int c), .im (.str abc), .im (.int (stepOf c)), .im (.str (rowOf c 6)), .im (.int (oneOf c)), .un, .un]) := by
    simp [binD, divD, modD, idxD, i1]
  have s5 : evS 0 (.asg (.nm 5) (.bin .add (.var 4) (.idx (.lst [(.cst (.int 1)), (.cst (.int 2)), (.cst (.int 1)), (.cst (.int 1)), (.cst (.int 0))]) (.bin .mod (.bin .div (.var 0) (.cst (.int 520))) (.cst (.int 5)))))) [.im (.int c), .im (.str abc), .im (.int (stepOf c)), .im (.str (rowOf c 6)), .im (.int (oneOf c)), .un, .un] = .ok (.nx, [.im (.int c), .im (.str abc), .im (.int (stepOf c)), .im (.str (rowOf c 6)), .im (.int (oneOf c)), .im (.int (otherOf c)), .un]) := by
    simp only [evS_asg, ev_bin, ev_idx, ev_lst, evs_cons, evs_nil, ev_cst, pre_var, pre_idx, pre_lst, pre_bin, pre_cst, fin_idx, fin_lst, fin_bin, fin_cst, fin_var, peek_eq, Out.bind_ok, binD, divD, modD, idxD]
    simp [divD, modD, addD, i2, otherOf]
  have hr0 : rho0 [.im] [.int c] 7 = [.im (.int c), .un, .un, .un, .un, .un, .un] := rfl
  refine run_ret (ρ' := [.im (.int c), .im (.str abc), .im (.int (stepOf c)), .im (.str (rowOf c 6)), .im (.int (oneOf c)), .im (.int (otherOf c)), .un]) ?_ rfl
  unfold m__law_signs_by
  rw [hr0, evSs_step s1, evSs_step s2, evSs_step s3, evSs_step s4, evSs_step s5]
  simp [evSs_cons, slD, binD, addD, divD, modD, sgD, sgA, sgB, sgC]
theorem cut_sub {α : Type} (l : List α) (lo hi : Option Int) : ∀ x ∈ cutD l lo hi, x ∈ l := fun x hx => by
  unfold cutD at hx
  exact List.mem_of_mem_drop (List.mem_of_mem_take hx)
theorem cut_len {α : Type} (l : List α) (lo hi : Option Int) : (cutD l lo hi).length ≤ l.length := by
  unfold cutD
  rw [List.length_take, List.length_drop]
  omega
theorem let_of {l m : List Nat} (h : m.all isLet = true) (hs : ∀ x ∈ l, x ∈ m) : ∀ x ∈ l, isLet x = true := fun x hx => List.all_eq_true.mp h x (hs x hx)
theorem sgA_let (c : Int) : ∀ x ∈ sgA c, isLet x = true := let_of (rowOf_let c 6) (cut_sub _ _ _)
theorem sgB_let (c : Int) : ∀ x ∈ sgB c, isLet x = true := let_of (rowOf_let c 6) (cut_sub _ _ _)
theorem sgC_let (c : Int) : ∀ x ∈ sgC c, isLet x = true := let_of (rowOf_let c 6) (cut_sub _ _ _)
theorem sgA_len (c : Int) : (sgA c).length ≤ 6 := by have := cut_len (rowOf c 6) none (some (oneOf c)); rw [rowOf_len] at this; exact this
theorem sgB_len (c : Int) : (sgB c).length ≤ 6 := by have := cut_len (rowOf c 6) (some (oneOf c)) (some (otherOf c)); rw [rowOf_len] at this; exact this
theorem sgC_len (c : Int) : (sgC c).length ≤ 6 := by have := cut_len (rowOf c 6) (some (otherOf c)) (some (otherOf c + c / 2600 % 3)); rw [rowOf_len] at this; exact this
end K1

namespace K1
open NV
theorem ix_str {a : List Nat} (x : Int) (h : a ≠ []) : ∃ ch, ixD a (x % a.length) = some ch := by
  have hl : 0 < a.length := List.length_pos_iff.mpr h
  have := mod_b x a.length (by omega)
  unfold ixD
  rw [if_pos this.1]
  have h2 : (x % (a.length : Int)).toNat < a.length := by omega
  exact ⟨_, List.getElem?_eq_getElem h2⟩
def wBody1 : List MS := [.ite (.and [(.cmp .eq (.bin .mod (.var 4) (.cst (.int 3))) (.cst (.int 0))), (.cmp .lt (.var 3) (.cst (.int 4))), (.cmp .ne (.idx (.var 0) (.cst (.int 0))) (.cst (.str []))), (.cmp .ne (.idx (.var 0) (.cst (.int 1))) (.cst (.str [])))]) [.asg (.nm 2) (.bin .add (.var 2) (.idx (.idx (.var 0) (.cst (.int 0))) (.bin .mod (.bin .div (.var 4) (.cst (.int 3))) (.b1 .len (.idx (.var 0) (.cst (.int 0))))))), .asg (.nm 3) (.bin .add (.var 3) (.cst (.int 1)))] [.ite (.and [(.cmp .eq (.bin .mod (.var 4) (.cst (.int 3))) (.cst (.int 1))), (.cmp .gt (.var 3) (.cst (.int 0)))]) [.asg (.nm 2) (.bin .add (.var 2) (.idx (.idx (.var 0) (.cst (.int 1))) (.bin .mod (.bin .div (.var 4) (.cst (.int 3))) (.b1 .len (.idx (.var 0) (.cst (.int 1))))))), .asg (.nm 3) (.bin .sub (.var 3) (.cst (.int 1)))] [.ite (.cmp .ne (.idx (.var 0) (.cst (.int 2))) (.cst (.str []))) [.asg (.nm 2) (.bin .add (.var 2) (.idx (.idx (.var 0) (.cst (.int 2))) (.bin .mod (.bin .div (.var 4) (.cst (.int 3))) (.b1 .len (.idx (.var 0) (.cst (.int 2)))))))] []]]]
def wBody2 : List MS := [.asg (.nm 2) (.bin .add (.var 2) (.idx (.idx (.var 0) (.cst (.int 1))) (.bin .mod (.bin .add (.b1 .len (.var 2)) (.var 5)) (.b1 .len (.idx (.var 0) (.cst (.int 1)))))))]
def wInv (a b c : List Nat) (cells : D) (i : Nat) (ρ : Rho) : Prop := ∃ (w : List Nat) (deep : Int) (e4 : Ent), ρ = [.im (.tup [.str a, .str b, .str c]), .im cells, .im (.str w), .im (.int deep), e4, .un] ∧ isUI e4 = true ∧ w.length ≤ i ∧ 0 ≤ deep ∧ deep ≤ 4 ∧ (0 < deep → b ≠ [])
theorem w_step (a b c w : List Nat) (cells : D) (cell deep : Int) (i : Nat) (hi : i ≤ 100) (hw : w.length ≤ i) (h0 : 0 ≤ deep) (h4 : deep ≤ 4) (hb : 0 < deep → b ≠ []) :
    ∃ ρ', evSs 0 wBody1 [.im (.tup [.str a, .str b, .str c]), .im cells, .im (.str w), .im (.int deep), .im (.int cell), .un] = .ok (.nx, ρ') ∧ wInv a b c cells (i + 1) ρ' := by
  have l1 : w.length + 1 ≤ szl := by unfold szl; omega
  have m3 := mod_b cell 3 (by omega)
  have e0 : (cell % 3 == 0) = decide (cell % 3 = 0) := by rw [Bool.eq_iff_iff]; simp
  have e1 : (cell % 3 == 1) = decide (cell % 3 = 1) := by rw [Bool.eq_iff_iff]; simp
  have ea : (a == []) = decide (a = []) := by rw [Bool.eq_iff_iff]; simp
  have eb : (b == []) = decide (b = []) := by rw [Bool.eq_iff_iff]; simp
  have ec : (c == []) = decide (c = []) := by rw [Bool.eq_iff_iff]; simp
  -- the last arm
  have arm3 : (evSs 0 [.ite (.cmp .ne (.idx (.var 0) (.cst (.int 2))) (.cst (.str []))) [.asg (.nm 2) (.bin .add (.var 2) (.idx (.idx (.var 0) (.cst (.int 2))) (.bin .mod (.bin .div (.var 4) (.cst (.int 3))) (.b1 .len (.idx (.var 0) (.cst (.int 2)))))))] []] [.im (.tup [.str a, .str b, .str c]), .im cells, .im (.str w), .im (.int deep), .im (.int cell), .un]) = .ok (.nx, [.im (.tup [.str a, .str b, .str c]), .im cells, .im (.str (if c = [] then w else w ++ [((ixD c (cell / 3 % c.length)).getD 0)])), .im (.int deep), .im (.int cell), .un]) := by
    by_cases hc : c = []
    · subst hc
      simp [evSs_cons, cmpD, eqOk, eqD, D.dep, idxD]
    · obtain ⟨ch, hch⟩ := ix_str (cell / 3) hc
      have hl : 0 < c.length := List.length_pos_iff.mpr hc
      simp [evSs_cons, binD, modD, divD, addD, cmpD, eqOk, eqD, D.dep, idxD, ec, hc, b1D, lenD, hl, l1, hch]
  -- the middle arm
  have arm2 : ∃ w' deep', (evSs 0 [.ite (.and [(.cmp .eq (.bin .mod (.var 4) (.cst (.int 3))) (.cst (.int 1))), (.cmp .gt (.var 3) (.cst (.int 0)))]) [.asg (.nm 2) (.bin .add (.var 2) (.idx (.idx (.var 0) (.cst (.int 1))) (.bin .mod (.bin .div (.var 4) (.cst (.int 3))) (.b1 .len (.idx (.var 0) (.cst (.int 1))))))), .asg (.nm 3) (.bin .sub (.var 3) (.cst (.int 1)))] [.ite (.cmp .ne (.idx (.var 0) (.cst (.int 2))) (.cst (.str []))) [.asg (.nm 2) (.bin .add (.var 2) (.idx (.idx (.var 0) (.cst (.int 2))) (.bin .mod (.bin .div (.var 4) (.cst (.int 3))) (.b1 .len (.idx (.var 0) (.cst (.int 2)))))))] []]] [.im (.tup [.str a, .str b, .str c]), .im cells, .im (.str w), .im (.int deep), .im (.int cell), .un]) = .ok (.nx, [.im (.tup [.str a, .str b, .str c]), .im cells, .im (.str w'), .im (.int deep'), .im (.int cell), .un]) ∧ w'.length ≤ i + 1 ∧ 0 ≤ deep' ∧ deep' ≤ deep := by
    by_cases c1 : cell % 3 = 1 ∧ 0 < deep
    · obtain ⟨c1, c2⟩ := c1
      have hc := hb c2
      obtain ⟨ch, hch⟩ := ix_str (cell / 3) hc
      have hl : 0 < b.length := List.length_pos_iff.mpr hc
      refine ⟨w ++ [ch], deep - 1, ?_, by simp; omega, by omega, by omega⟩
      simp [evSs_cons, binD, modD, divD, addD, subD, cmpD, eqOk, eqD, D.dep, idxD, c1, c2, b1D, lenD, hl, l1, hch]
    · refine ⟨if c = [] then w else w ++ [((ixD c (cell / 3 % c.length)).getD 0)], deep, ?_, ?_, h0, Int.le_refl _⟩
      · rw [evSs_cons, evS_ite]
        have hcond : ev (.and [(.cmp .eq (.bin .mod (.var 4) (.cst (.int 3))) (.cst (.int 1))), (.cmp .gt (.var 3) (.cst (.int 0)))]) [.im (.tup [.str a, .str b, .str c]), .im cells, .im (.str w), .im (.int deep), .im (.int cell), .un] = .ok (.bl false, [.im (.tup [.str a, .str b, .str c]), .im cells, .im (.str w), .im (.int deep), .im (.int cell), .un]) := by
          by_cases d1 : cell % 3 = 1
          · have d2 : ¬ 0 < deep := fun z => c1 ⟨d1, z⟩
            simp [binD, modD, cmpD, eqOk, eqD, D.dep, d1, d2]
          · simp [binD, modD, cmpD, eqOk, eqD, D.dep, e1, d1]
        rw [hcond, Out.bind_ok]
        dsimp only
        rw [arm3, Out.bind_ok]
        rfl
      · split
        · omega
        · simp; omega
  by_cases c1 : cell % 3 = 0 ∧ deep < 4 ∧ a ≠ [] ∧ b ≠ []
  · obtain ⟨c1, c2, c3, c4⟩ := c1
    obtain ⟨ch, hch⟩ := ix_str (cell / 3) c3
    have hl : 0 < a.length := List.length_pos_iff.mpr c3
    refine ⟨[.im (.tup [.str a, .str b, .str c]), .im cells, .im (.str (w ++ [ch])), .im (.int (deep + 1)), .im (.int cell), .un], ?_, ⟨_, _, _, rfl, rfl, by simp; omega, by omega, by omega, fun _ => c4⟩⟩
    simp [wBody1, evSs_cons, binD, modD, divD, addD, subD, cmpD, eqOk, eqD, D.dep, idxD, c1, c2, c3, c4, ea, eb, b1D, lenD, hl, l1, hch]
  · obtain ⟨w', deep', q1, q2, q3, q4⟩ := arm2
    refine ⟨_, ?_, ⟨w', deep', .im (.int cell), rfl, rfl, q2, q3, by omega, fun z => hb (by omega)⟩⟩
    unfold wBody1
    rw [evSs_cons, evS_ite]
    have hcond : ev (.and [(.cmp .eq (.bin .mod (.var 4) (.cst (.int 3))) (.cst (.int 0))), (.cmp .lt (.var 3) (.cst (.int 4))), (.cmp .ne (.idx (.var 0) (.cst (.int 0))) (.cst (.str []))), (.cmp .ne (.idx (.var 0) (.cst (.int 1))) (.cst (.str [])))]) [.im (.tup [.str a, .str b, .str c]), .im cells, .im (.str w), .im (.int deep), .im (.int cell), .un] = .ok (.bl false, [.im (.tup [.str a, .str b, .str c]), .im cells, .im (.str w), .im (.int deep), .im (.int cell), .un]) := by
      by_cases d1 : cell % 3 = 0
      · by_cases d2 : deep < 4
        · by_cases d3 : a = []
          · simp [binD, modD, cmpD, eqOk, eqD, D.dep, idxD, d1, d2, d3]
          · have d4 : b = [] := Classical.byContradiction fun z => c1 ⟨d1, d2, d3, z⟩
            simp [binD, modD, cmpD, eqOk, eqD, D.dep, idxD, d1, d2, d3, ea, d4]
        · simp [binD, modD, cmpD, eqOk, eqD, D.dep, d1, d2]
      · simp [binD, modD, cmpD, eqOk, eqD, D.dep, e0, d1]
    rw [hcond, Out.bind_ok]
    dsimp only
    rw [q1, Out.bind_ok]
    rfl
end K1

namespace K1
open NV
theorem word_by_ex (a b c : List Nat) (cs : List Int) (hl : cs.length ≤ 63) : ∃ w : List Nat, w.length ≤ 67 ∧ E__law_word_by.F [.tup [.str a, .str b, .str c], .lst (cs.map D.int)] = .ok (.str w, []) := by
  obtain ⟨ρ1, f1, w1⟩ := for_inv (body := evSs 0 wBody1) (tg := .nm 4) (wInv a b c (.lst (cs.map D.int))) (cs.map D.int) 0 [.im (.tup [.str a, .str b, .str c]), .im (.lst (cs.map D.int)), .im (.str []), .im (.int 0), .un, .un] ⟨[], 0, .un, rfl, rfl, Nat.le_refl _, by omega, by omega, fun z => by omega⟩ fun j ρ d hd hi => by
    obtain ⟨w, deep, e4, rfl, h4, hw, h0, h1, hb⟩ := hi
    rw [List.getElem?_map] at hd
    cases q : cs[j]? with
    | none => rw [q] at hd; cases hd
    | some cell =>
      rw [q] at hd
      cases hd
      have hj := lt_of_get q
      obtain ⟨ρ', s1, s2⟩ := w_step a b c w (.lst (cs.map D.int)) cell deep (0 + j) (by omega) hw h0 h1 hb
      exact ⟨_, ρ', by rcases isUI_or h4 with rfl | ⟨_, rfl⟩ <;> rfl, s1, s2⟩
  obtain ⟨w, deep, e4, rfl, h4, hw, h0, h1, hb⟩ := w1
  rw [List.length_map] at hw
  have hdn : ∃ n : Nat, deep = n ∧ n ≤ 4 := ⟨deep.toNat, by omega, by omega⟩
  obtain ⟨n, rfl, hn⟩ := hdn
  obtain ⟨ρ2, f2, w2⟩ := for_inv (body := evSs 0 wBody2) (tg := .nm 5) (fun i ρ => ∃ (w' : List Nat) (e5 : Ent), ρ = [.im (.tup [.str a, .str b, .str c]), .im (.lst (cs.map D.int)), .im (.str w'), .im (.int n), e4, e5] ∧ isUI e5 = true ∧ w'.length ≤ 63 + i) (rngD 0 n) 0 [.im (.tup [.str a, .str b, .str c]), .im (.lst (cs.map D.int)), .im (.str w), .im (.int n), e4, .un] ⟨w, .un, rfl, rfl, by omega⟩ fun j ρ d hd hi => by
    obtain ⟨w', e5, rfl, h5, hw'⟩ := hi
    have hj := lt_of_get hd
    have hjn : j < n := by simpa [rngD] using hj
    have hd' : d = .int j := by
      unfold rngD at hd
      rw [List.getElem?_map, List.getElem?_range hjn] at hd
      cases hd
      simp
    subst hd'
    have hbn : b ≠ [] := hb (by omega)
    obtain ⟨ch, hch⟩ := ix_str ((w'.length : Int) + j) hbn
    have hlb : 0 < b.length := List.length_pos_iff.mpr hbn
    have l1 : w'.length + 1 ≤ szl := by unfold szl; omega
    refine ⟨_, [.im (.tup [.str a, .str b, .str c]), .im (.lst (cs.map D.int)), .im (.str (w' ++ [ch])), .im (.int n), e4, .im (.int j)], by rcases isUI_or h5 with rfl | ⟨_, rfl⟩ <;> rfl, ?_, ⟨_, _, rfl, rfl, by simp; omega⟩⟩
    simp [wBody2, evSs_cons, binD, modD, addD, idxD, b1D, lenD, hlb, l1, hch]
  obtain ⟨w', e5, rfl, h5, hw'⟩ := w2
  have hln : (rngD 0 n).length = n := by simp [rngD]
  rw [hln] at hw'
  refine ⟨w', by omega, ?_⟩
  rw [F__law_word_by]
  refine run_ret (ρ' := [.im (.tup [.str a, .str b, .str c]), .im (.lst (cs.map D.int)), .im (.str w'), .im (.int n), e4, e5]) ?_ rfl
  have hm : m__law_word_by = [.asg (.nm 2) (.cst (.str [])), .asg (.nm 3) (.cst (.int 0)), .for (.nm 4) .seq [.var 1] wBody1, .for (.nm 5) .rng1 [.var 3] wBody2, .ret (.var 2)] := rfl
  rw [hm]
  have s3 : evS 0 (.for (.nm 4) .seq [(.var 1)] wBody1) [.im (.tup [.str a, .str b, .str c]), .im (.lst (cs.map D.int)), .im (.str []), .im (.int 0), .un, .un] = .ok (.nx, [.im (.tup [.str a, .str b, .str c]), .im (.lst (cs.map D.int)), .im (.str w), .im (.int n), e4, .un]) := by
    rw [evS_for]
    simp [iterD, itemsD, lockE, unlockE, f1]
  have s4 : evS 0 (.for (.nm 5) .rng1 [(.var 3)] wBody2) [.im (.tup [.str a, .str b, .str c]), .im (.lst (cs.map D.int)), .im (.str w), .im (.int n), e4, .un] = .ok (.nx, [.im (.tup [.str a, .str b, .str c]), .im (.lst (cs.map D.int)), .im (.str w'), .im (.int n), e4, e5]) := by
    rw [evS_for]
    have hr : iterD .rng1 [.int n] = some (rngD 0 n) := by
      show (if (n : Int).natAbs ≤ 16777216 then some (rngD 0 (n : Int).toNat) else none) = _
      rw [if_pos (by omega), Int.toNat_natCast]
    simp [lockE, unlockE, hr, f2]
  have hr0 : rho0 [.im, .im] [.tup [.str a, .str b, .str c], .lst (cs.map D.int)] 6 = [.im (.tup [.str a, .str b, .str c]), .im (.lst (cs.map D.int)), .un, .un, .un, .un] := rfl
  rw [hr0, evSs_step (ρ' := [.im (.tup [.str a, .str b, .str c]), .im (.lst (cs.map D.int)), .im (.str []), .un, .un, .un]) rfl, evSs_step (ρ' := [.im (.tup [.str a, .str b, .str c]), .im (.lst (cs.map D.int)), .im (.str []), .im (.int 0), .un, .un]) rfl]
  rw [evSs_step s3, evSs_step s4]
  rfl
/-! ### is_word -/
def wordG (a b c : List Nat) : Int → D → Int ⊕ D := fun deep d => match d with
  | .str [x] => if x ∈ a then (if deep + 1 < 0 then .inr (.bl false) else .inl (deep + 1)) else if x ∈ b then (if deep - 1 < 0 then .inr (.bl false) else .inl (deep - 1)) else if x ∈ c then (if deep < 0 then .inr (.bl false) else .inl deep) else .inr (.bl false)
  | _ => .inr (.bl false)
def isWord (a b c : List Nat) : D → Bool
  | .str s => match loopE (wordG a b c) 0 (s.map fun x => D.str [x]) with
    | .inl deep => decide (deep = 0)
    | .inr _ => false
  | _ => false
def iwBody : List MS := [.ite (.cmp .isin (.var 3) (.idx (.var 0) (.cst (.int 0)))) [.asg (.nm 2) (.bin .add (.var 2) (.cst (.int 1)))] [.ite (.cmp .isin (.var 3) (.idx (.var 0) (.cst (.int 1)))) [.asg (.nm 2) (.bin .sub (.var 2) (.cst (.int 1)))] [.ite (.cmp .notin (.var 3) (.idx (.var 0) (.cst (.int 2)))) [.ret (.cst (.bl false))] []]], .ite (.cmp .lt (.var 2) (.cst (.int 0))) [.ret (.cst (.bl false))] []]
theorem is_word_eq (a b c : List Nat) (d : D) (h : tyOk d = true) : E__law_is_word.F [.tup [.str a, .str b, .str c], d] = .ok (.bl (isWord a b c d), []) := by
  rw [F__law_is_word]
  have hm : m__law_is_word = [.ite (.not (.isi (.var 1) "str")) [.ret (.cst (.bl false))] [], .asg (.nm 2) (.cst (.int 0)), .for (.nm 3) .seq [.var 1] iwBody, .ret (.cmp .eq (.var 2) (.cst (.int 0)))] := rfl
  rw [hm]
  unfold runF
  cases d with
  | obj _ _ => cases h
  | adr _ => cases h
  | scr _ => cases h
  | str s =>
    have fl := for_loop (body := evSs 0 iwBody) (tg := .nm 3) (items := s.map fun x => D.str [x]) (g := wordG a b c) (s := (0 : Int)) (ρ := [.im (.tup [.str a, .str b, .str c]), .im (.str s), .im (.int 0), .un])
      (st := fun deep ρ => match ρ with
        | [x0, x1, x2, e3] => x0 = .im (.tup [.str a, .str b, .str c]) ∧ x1 = .im (.str s) ∧ x2 = .im (.int deep) ∧ isUI e3 = true
        | _ => False) ⟨rfl, rfl, rfl, rfl⟩ (fun deep ρ d hd hst => by
        obtain ⟨x, _, rfl⟩ := List.mem_map.mp hd
        split at hst
        · rename_i x0 x1 x2 e3
          obtain ⟨rfl, rfl, rfl, h3⟩ := hst
          refine ⟨[.im (.tup [.str a, .str b, .str c]), .im (.str s), .im (.int deep), .im (.str [x])], by rcases isUI_or h3 with rfl | ⟨_, rfl⟩ <;> simp, ?_⟩
          unfold wordG iwBody
          dsimp only
          by_cases ha : x ∈ a
          · by_cases hd : deep + 1 < 0 <;> simp [evSs_cons, cmpD, inD, idxD, binD, addD, ha, hd]
          · by_cases hb : x ∈ b
            · by_cases hd : deep - 1 < 0 <;> simp [evSs_cons, cmpD, inD, idxD, binD, subD, ha, hb, hd]
            · by_cases hc : x ∈ c
              · by_cases hd : deep < 0 <;> simp [evSs_cons, cmpD, inD, idxD, binD, subD, ha, hb, hc, hd]
              · simp [evSs_cons, cmpD, inD, idxD, binD, subD, ha, hb, hc]
        · exact hst.elim)
    cases q : loopE (wordG a b c) 0 (s.map fun x => D.str [x]) with
    | inl deep =>
      rw [q] at fl
      obtain ⟨ρ', f1, f2⟩ := fl
      split at f2
      · rename_i x0 x1 x2 e3
        obtain ⟨rfl, rfl, rfl, _⟩ := f2
        have e9 : (deep == 0) = decide (deep = 0) := by rw [Bool.eq_iff_iff]; simp
        simp [evSs_cons, evS_for, rho0, entOf, isiD, tyN, tyL, isiB, iterD, itemsD, lockE, unlockE, cmpD, eqOk, eqD, D.dep, isWord, q, f1, e9]
      · exact f2.elim
    | inr v =>
      rw [q] at fl
      obtain ⟨ρ', f1⟩ := fl
      have hv : v = .bl false := loopE_ret (v := .bl false) (fun s d w e => by
        unfold wordG at e
        split at e
        · split at e
          · split at e <;> cases e; rfl
          · split at e
            · split at e <;> cases e; rfl
            · split at e
              · split at e <;> cases e; rfl
              · cases e; rfl
        · cases e; rfl) _ _ _ q
      subst hv
      simp [evSs_cons, evS_for, rho0, entOf, isiD, tyN, tyL, isiB, iterD, itemsD, lockE, unlockE, cmpD, eqOk, eqD, D.dep, isWord, q, f1]
  | _ => simp [evSs_cons, rho0, entOf, isiD, tyN, tyL, isiB, isWord]
theorem word_nest (a b c : List Nat) (d : D) : isNest a b c d = isWord a b c d := by
  cases d with
  | str s =>
    have key : ∀ (l : List Nat) (deep : Int), 0 ≤ deep → (match loopE (nestG a b c) deep (l.map fun x => D.str [x]) with | .inl deep => decide (deep = 0) | .inr _ => false) = (match loopE (wordG a b c) deep (l.map fun x => D.str [x]) with | .inl deep => decide (deep = 0) | .inr _ => false) := by
      intro l
      induction l with
      | nil => intro deep _; rfl
      | cons x l ih =>
        intro deep h0
        simp only [List.map_cons, loopE]
        by_cases ha : x ∈ a
        · have e1 : nestG a b c deep (.str [x]) = .inl (deep + 1) := by simp [nestG, kindOf, ha]
          have e2 : wordG a b c deep (.str [x]) = .inl (deep + 1) := by
            have : ¬ deep + 1 < 0 := by omega
            simp [wordG, ha, this]
          rw [e1, e2]
          exact ih _ (by omega)
        · by_cases hb : x ∈ b
          · by_cases hz : deep = 0
            · subst hz
              have e1 : nestG a b c 0 (.str [x]) = .inr (.bl false) := by simp [nestG, kindOf, ha, hb]
              have e2 : wordG a b c 0 (.str [x]) = .inr (.bl false) := by simp [wordG, ha, hb]
              rw [e1, e2]
            · have e1 : nestG a b c deep (.str [x]) = .inl (deep - 1) := by simp [nestG, kindOf, ha, hb, hz]; omega
              have e2 : wordG a b c deep (.str [x]) = .inl (deep - 1) := by
                have : ¬ deep - 1 < 0 := by omega
                simp [wordG, ha, hb, this]
              rw [e1, e2]
              exact ih _ (by omega)
          · by_cases hc : x ∈ c
            · have e1 : nestG a b c deep (.str [x]) = .inl deep := by simp [nestG, kindOf, ha, hb, hc]
              have e2 : wordG a b c deep (.str [x]) = .inl deep := by
                have : ¬ deep < 0 := by omega
                simp [wordG, ha, hb, hc, this]
              rw [e1, e2]
              exact ih _ h0
            · have e1 : nestG a b c deep (.str [x]) = .inr (.bl false) := by simp [nestG, kindOf, ha, hb, hc]
              have e2 : wordG a b c deep (.str [x]) = .inr (.bl false) := by simp [wordG, ha, hb, hc]
              rw [e1, e2]
    exact key s 0 (by omega)
  | _ => rfl
end K1

namespace K1
open NV
theorem abc_iff (x : Nat) : x ∈ abc ↔ isLet x = true := by
  rw [← abc_mem]
  simp
def goodG : List Nat → D → List Nat ⊕ D := fun seen d => match d with
  | .str [x] => if isLet x = true ∧ x ∉ seen then .inl (seen ++ [x]) else .inr (.bl false)
  | _ => .inr (.bl false)
theorem good_in : ∀ (s seen : List Nat), seen.Nodup → loopE goodG seen (s.map fun x => D.str [x]) = if s.all isLet = true ∧ (seen ++ s).Nodup then .inl (seen ++ s) else .inr (.bl false)
  | [], seen, h => by simp [loopE, h]
  | x :: s, seen, h => by
    simp only [List.map_cons, loopE]
    by_cases hx : isLet x = true ∧ x ∉ seen
    · have e : goodG seen (.str [x]) = .inl (seen ++ [x]) := by unfold goodG; dsimp only; rw [if_pos hx]
      have hn : (seen ++ [x]).Nodup := by
        rw [List.nodup_append]
        exact ⟨h, by simp, fun a h1 b h2 => by simp at h2; subst h2; exact fun z => hx.2 (z ▸ h1)⟩
      rw [e]
      dsimp only
      rw [good_in s (seen ++ [x]) hn]
      simp [hx.1]
    · have e : goodG seen (.str [x]) = .inr (.bl false) := by unfold goodG; dsimp only; rw [if_neg hx]
      rw [e, if_neg]
      rintro ⟨h1, h2⟩
      simp at h1
      refine hx ⟨h1.1, fun z => ?_⟩
      rw [List.nodup_append] at h2
      exact h2.2.2 x z x List.mem_cons_self rfl
def gInner : List MS := [.ite (.or [(.cmp .notin (.var 3) (.cst (.str abc))), (.cmp .isin (.var 3) (.var 1))]) [.ret (.cst (.bl false))] [], .asg (.nm 1) (.bin .add (.var 1) (.var 3))]
def gBody : List MS := [.ite (.or [(.not (.isi (.var 2) "str")), (.cmp .gt (.b1 .len (.var 2)) (.cst (.int 4)))]) [.ret (.cst (.bl false))] [], .for (.nm 3) .seq [(.var 2)] gInner]
def gd (seen : List Nat) : D → Option (List Nat)
  | .str s => if s.length ≤ 4 ∧ s.all isLet = true ∧ (seen ++ s).Nodup then some (seen ++ s) else none
  | _ => none
theorem good_part (th p : D) (seen : List Nat) (e3 : Ent) (hp : tyOk p = true) (hs : seen.Nodup) (hl : seen.length ≤ 8) (h3 : isUI e3 = true) :
    match gd seen p with
    | some seen' => ∃ e3', evSs 0 gBody [.im th, .im (.str seen), .im p, e3] = .ok (.nx, [.im th, .im (.str seen'), .im p, e3']) ∧ isUI e3' = true
    | none => ∃ ρ', evSs 0 gBody [.im th, .im (.str seen), .im p, e3] = .ok (.ret (.bl false), ρ') := by
  cases p with
  | obj _ _ => cases hp
  | adr _ => cases hp
  | scr _ => cases hp
  | str s =>
    by_cases h4 : s.length ≤ 4
    · have fl := for_loopI 4 (body := evSs 0 gInner) (tg := .nm 3) (items := s.map fun x => D.str [x]) (g := goodG) (i := 0) (s := seen) (ρ := [.im th, .im (.str seen), .im (.str s), e3])
        (st := fun i seen ρ => match ρ with
          | [x0, x1, x2, e3] => x0 = .im th ∧ x1 = .im (.str seen) ∧ x2 = .im (.str s) ∧ isUI e3 = true ∧ seen.length ≤ 8 + i
          | _ => False) (by simpa using h4) ⟨rfl, rfl, rfl, h3, by omega⟩ (fun i seen ρ d hd hi hst => by
          obtain ⟨x, _, rfl⟩ := List.mem_map.mp hd
          split at hst
          · rename_i x0 x1 x2 e3
            obtain ⟨rfl, rfl, rfl, h3, h5⟩ := hst
            refine ⟨[.im th, .im (.str seen), .im (.str s), .im (.str [x])], by rcases isUI_or h3 with rfl | ⟨_, rfl⟩ <;> simp, ?_⟩
            have l1 : seen.length + 1 ≤ szl := by unfold szl; omega
            have hab := abc_iff x
            unfold goodG gInner
            dsimp only
            by_cases hx : isLet x = true
            · have hm := hab.mpr hx
              by_cases hy : x ∈ seen
              · simp [evSs_cons, cmpD, inD, hx, hy, hm]
              · simp [evSs_cons, cmpD, inD, hx, hy, hm, binD, addD, l1]
                omega
            · have hx' : isLet x = false := by simpa using hx
              have hm : x ∉ abc := fun z => hx (hab.mp z)
              simp [evSs_cons, cmpD, inD, hx', hm]
          · exact hst.elim)
      rw [good_in s seen hs] at fl
      have hm : gBody = [.ite (.or [(.not (.isi (.var 2) "str")), (.cmp .gt (.b1 .len (.var 2)) (.cst (.int 4)))]) [.ret (.cst (.bl false))] [], .for (.nm 3) .seq [(.var 2)] gInner] := rfl
      have e2 : ¬ (4 : Int) < s.length := by omega
      by_cases hc : s.all isLet = true ∧ (seen ++ s).Nodup
      · rw [if_pos hc] at fl
        have e5 : gd seen (.str s) = some (seen ++ s) := by simp only [gd]; rw [if_pos ⟨h4, hc⟩]
        rw [e5]
        obtain ⟨ρ', f1, f2⟩ := fl
        split at f2
        · rename_i x0 x1 x2 e3'
          obtain ⟨rfl, rfl, rfl, h5, _⟩ := f2
          refine ⟨e3', ?_, h5⟩
          simp [hm, evSs_cons, evS_for, isiD, tyN, tyL, isiB, b1D, lenD, cmpD, e2, iterD, itemsD, lockE, unlockE, f1]
        · exact f2.elim
      · rw [if_neg hc] at fl
        have e5 : gd seen (.str s) = none := by simp only [gd]; rw [if_neg (fun z => hc z.2)]
        rw [e5]
        obtain ⟨ρ', f1⟩ := fl
        refine ⟨unlockE [.im th, .im (.str seen), .im (.str s), e3] [.var 2] ρ', ?_⟩
        simp [hm, evSs_cons, evS_for, isiD, tyN, tyL, isiB, b1D, lenD, cmpD, e2, iterD, itemsD, lockE, f1]
    · have e2 : (4 : Int) < s.length := by omega
      have e5 : gd seen (.str s) = none := by simp [gd, h4]
      rw [e5]
      exact ⟨[.im th, .im (.str seen), .im (.str s), e3], by simp [gBody, evSs_cons, isiD, tyN, tyL, isiB, b1D, lenD, cmpD, e2]⟩
  | _ => exact ⟨_, by simp [gBody, evSs_cons, isiD, tyN, tyL, isiB]; rfl⟩
end K1

namespace K1
open NV
theorem gd_some {seen s' : List Nat} {p : D} (h : gd seen p = some s') : ∃ s, p = .str s ∧ s.length ≤ 4 ∧ s.all isLet = true ∧ (seen ++ s).Nodup ∧ s' = seen ++ s := by
  cases p with
  | str s =>
    simp only [gd] at h
    split at h
    · rename_i hc
      cases h
      exact ⟨s, rfl, hc.1, hc.2.1, hc.2.2, rfl⟩
    · cases h
  | _ => cases h
theorem gd_of {seen s : List Nat} (h1 : s.length ≤ 4) (h2 : s.all isLet = true) (h3 : (seen ++ s).Nodup) : gd seen (.str s) = some (seen ++ s) := by
  simp only [gd]
  rw [if_pos ⟨h1, h2, h3⟩]
theorem isSg_gd (x y z : D) : isSg (.tup [x, y, z]) = (((gd [] x).bind fun s => gd s y).bind fun s => gd s z).isSome := by
  rw [Bool.eq_iff_iff]
  constructor
  · intro h
    have hd : isSg (.tup [x, y, z]) = true := h
    cases x <;> cases y <;> cases z <;> first | (simp [isSg] at h; done) | skip
    rename_i a b c
    have h : (areL (.str a) && areL (.str b) && areL (.str c) && decide ((a ++ b ++ c).Nodup)) = true := hd
    simp only [Bool.and_eq_true, decide_eq_true_eq] at h
    obtain ⟨⟨⟨h1, h2⟩, h3⟩, h4⟩ := h
    obtain ⟨_, e1, a1, a2⟩ := areL_str h1
    obtain ⟨_, e2, b1, b2⟩ := areL_str h2
    obtain ⟨_, e3, c1, c2⟩ := areL_str h3
    cases e1; cases e2; cases e3
    have n2 : (a ++ b).Nodup := (List.nodup_append.mp h4).1
    have n1 : a.Nodup := (List.nodup_append.mp n2).1
    rw [gd_of a1 a2 (by simpa using n1)]
    simp only [Option.bind_some, List.nil_append]
    rw [gd_of b1 b2 n2]
    simp only [Option.bind_some]
    rw [gd_of c1 c2 h4]
    rfl
  · intro h
    cases q1 : gd [] x with
    | none => rw [q1] at h; simp at h
    | some s1 =>
      rw [q1] at h
      simp only [Option.bind_some] at h
      cases q2 : gd s1 y with
      | none => rw [q2] at h; simp at h
      | some s2 =>
        rw [q2] at h
        simp only [Option.bind_some] at h
        cases q3 : gd s2 z with
        | none => rw [q3] at h; simp at h
        | some s3 =>
          obtain ⟨a, ex, a1, a2, a3, es⟩ := gd_some q1
          have ea : a = s1 := by simpa using es.symm
          subst ex ea
          obtain ⟨b, rfl, b1, b2, b3, rfl⟩ := gd_some q2
          obtain ⟨c, rfl, c1, c2, c3, rfl⟩ := gd_some q3
          have c3' : (a ++ (b ++ c)).Nodup := by rw [← List.append_assoc]; exact c3
          simp [isSg, areL, a1, a2, b1, b2, c1, c2, c3']
theorem good_eq (d : D) (h : okT d = true) : E__law_good.F [d] = .ok (.bl (isSg d), []) := by
  rw [F__law_good]
  have hm : m__law_good = [.ite (.or [(.not (.isi (.var 0) "tuple")), (.cmp .ne (.b1 .len (.var 0)) (.cst (.int 3)))]) [.ret (.cst (.bl false))] [], .asg (.nm 1) (.cst (.str [])), .for (.nm 2) .seq [(.var 0)] gBody, .ret (.cst (.bl true))] := rfl
  rw [hm]
  cases d with
  | obj _ _ => cases h
  | adr _ => cases h
  | scr _ => cases h
  | tup l =>
    match l, h with
    | [x, y, z], h =>
      have hx : tyOk x = true ∧ tyOk y = true ∧ tyOk z = true := by simpa [okT] using h
      obtain ⟨hx, hy, hz⟩ := hx
      have st0 : evS 0 (.ite (.or [(.not (.isi (.var 0) "tuple")), (.cmp .ne (.b1 .len (.var 0)) (.cst (.int 3)))]) [.ret (.cst (.bl false))] []) [.im (.tup [x, y, z]), .un, .un, .un] = .ok (.nx, [.im (.tup [x, y, z]), .un, .un, .un]) := by
        simp [isiD, tyN, tyL, isiB, b1D, lenD, cmpD, eqOk, eqD, D.dep]
      have hr0 : rho0 [.im] [.tup [x, y, z]] 4 = [.im (.tup [x, y, z]), .un, .un, .un] := rfl
      have fin : ∀ (b : Bool) (ρ' : Rho), (∃ fl, forLoop (evSs 0 gBody) (.nm 2) [x, y, z] [.im (.tup [x, y, z]), .im (.str []), .un, .un] = .ok (fl, ρ') ∧ (if b = true then fl = .nx else fl = .ret (.bl false))) →
          runF [.im] 4 false 0 [.ite (.or [(.not (.isi (.var 0) "tuple")), (.cmp .ne (.b1 .len (.var 0)) (.cst (.int 3)))]) [.ret (.cst (.bl false))] [], .asg (.nm 1) (.cst (.str [])), .for (.nm 2) .seq [(.var 0)] gBody, .ret (.cst (.bl true))] [.tup [x, y, z]] = .ok (.bl b, []) := fun b ρ' ⟨fl, f1, f2⟩ => by
        refine run_ret (ρ' := unlockE [.im (.tup [x, y, z]), .im (.str []), .un, .un] [.var 0] ρ') ?_ rfl
        rw [hr0, evSs_step st0, evSs_step (ρ' := [.im (.tup [x, y, z]), .im (.str []), .un, .un]) rfl]
        cases b with
        | true =>
          rw [if_pos rfl] at f2
          subst f2
          simp [evSs_cons, evS_for, iterD, itemsD, lockE, f1]
        | false =>
          rw [if_neg (by simp)] at f2
          subst f2
          simp [evSs_cons, evS_for, iterD, itemsD, lockE, f1]
      rw [isSg_gd]
      have p1 := good_part (.tup [x, y, z]) x [] .un hx List.nodup_nil (by simp) rfl
      cases q1 : gd [] x with
      | none =>
        rw [q1] at p1
        obtain ⟨ρ', p1⟩ := p1
        exact fin false ρ' ⟨_, by simp [p1]; rfl, by simp⟩
      | some s1 =>
        rw [q1] at p1
        obtain ⟨e1, p1, i1⟩ := p1
        obtain ⟨a, ex, a1, a2, a3, es⟩ := gd_some q1
        have ea : a = s1 := by simpa using es.symm
        subst ex ea
        have p2 := good_part (.tup [.str a, y, z]) y a e1 hy (by simpa using a3) (by omega) i1
        simp only [Option.bind_some]
        cases q2 : gd a y with
        | none =>
          rw [q2] at p2
          obtain ⟨ρ', p2⟩ := p2
          exact fin false ρ' ⟨.ret (.bl false), by simp [p1, p2], by simp⟩
        | some s2 =>
          rw [q2] at p2
          obtain ⟨e2, p2, i2⟩ := p2
          obtain ⟨b, rfl, b1, b2, b3, rfl⟩ := gd_some q2
          have p3 := good_part (.tup [.str a, .str b, z]) z (a ++ b) e2 hz b3 (by simp; omega) i2
          simp only [Option.bind_some]
          cases q3 : gd (a ++ b) z with
          | none =>
            rw [q3] at p3
            obtain ⟨ρ', p3⟩ := p3
            exact fin false ρ' ⟨.ret (.bl false), by simp [p1, p2, p3], by simp⟩
          | some s3 =>
            rw [q3] at p3
            obtain ⟨e3, p3, i3⟩ := p3
            exact fin true _ ⟨.nx, by simp [p1, p2, p3]; rfl, by simp⟩
    | [], h => simp [runF, evSs_cons, rho0, entOf, isiD, tyN, tyL, isiB, b1D, lenD, cmpD, eqOk, eqD, D.dep, isSg]
    | [x], h => simp [runF, evSs_cons, rho0, entOf, isiD, tyN, tyL, isiB, b1D, lenD, cmpD, eqOk, eqD, D.dep, isSg]
    | [x, y], h => simp [runF, evSs_cons, rho0, entOf, isiD, tyN, tyL, isiB, b1D, lenD, cmpD, eqOk, eqD, D.dep, isSg]
    | x :: y :: z :: w :: l, h =>
      have e : (((l.length : Int) + 1 + 1 + 1 + 1) == 3) = false := by rw [beq_eq_false_iff_ne]; omega
      simp [runF, evSs_cons, rho0, entOf, isiD, tyN, tyL, isiB, b1D, lenD, cmpD, eqOk, eqD, D.dep, isSg, e]
  | _ => simp [runF, evSs_cons, rho0, entOf, isiD, tyN, tyL, isiB, isSg]
end K1

namespace K1
open NV
def refusedD : D := .tup [.str [114, 101, 102, 117, 115, 101, 100], .bl true]
theorem asked0 (d x : D) (h : okT d = true) (hx : tyOk x = true) : E__law_asked.F [d, x, .int 0] = .ok (if isSg d then .bl true else refusedD, []) := by
  rw [F__law_asked]
  unfold m__law_asked runF
  have e0 : setE [Ent.im d, .im x, .im (.int 0), .un] 3 .un = some [Ent.im d, .im x, .im (.int 0), .un] := rfl
  cases q : isSg d with
  | true => simp [evSs_cons, evS, rho0, entOf, cmpD, eqOk, eqD, D.dep, need_signs_eq d h, q]
  | false =>
    have ei : excIx "BadSigns" = some 0 := by decide
    simp [evSs_cons, evS, rho0, entOf, cmpD, eqOk, eqD, D.dep, need_signs_eq d h, q, trySuite, ei, suDs, suD, isVar, kVal, suRet, refusedD]
theorem asked1 (a b c : List Nat) (x : D) (hx : tyOk x = true) : E__law_asked.F [.tup [.str a, .str b, .str c], x, .int 1] = .ok (if isNest a b c x then .bl true else refusedD, []) := by
  rw [F__law_asked]
  unfold m__law_asked runF
  cases q : isNest a b c x with
  | true => simp [evSs_cons, evS, rho0, entOf, cmpD, eqOk, eqD, D.dep, need_word_eq a b c x hx, q]
  | false =>
    have ei : excIx "BadWord" = some 1 := by decide
    simp [evSs_cons, evS, rho0, entOf, cmpD, eqOk, eqD, D.dep, need_word_eq a b c x hx, q, trySuite, ei, suDs, suD, isVar, kVal, suRet, refusedD]
end K1

namespace K1
open NV
theorem ix_any (L : List D) (i : Int) (h0 : 0 ≤ i) (h1 : i < L.length) : ∃ d, ixD L i = some d ∧ d ∈ L := by
  have : i.toNat < L.length := by omega
  unfold ixD
  rw [if_pos h0, List.getElem?_eq_getElem this]
  exact ⟨_, rfl, List.getElem_mem this⟩
theorem bent_ex (w a b c : List Nat) (cell : Int) (hw : w.length ≤ 67) (ha : a.length ≤ 6) (hb : b.length ≤ 6) (hc : c.length ≤ 6) : ∃ d, tyOk d = true ∧ E__law_bent.F [.str w, .tup [.str a, .str b, .str c], .int cell] = .ok (d, []) := by
  rw [F__law_bent]
  have hne : a ++ b ++ c ++ [65] ≠ [] := by simp
  obtain ⟨ch, hch⟩ := ix_str (cell / 66) hne
  have hlen : (a ++ b ++ c ++ [65]).length = a.length + b.length + c.length + 1 := by simp; omega
  generalize hev : a ++ b ++ c ++ [65] = every at hch hlen
  have hle : 0 < every.length := by omega
  generalize hat : cell / 6 % ((w.length : Int) + 1) = at_
  have l1 : a.length + b.length ≤ szl := by unfold szl; omega
  have l2 : a.length + b.length + c.length ≤ szl := by unfold szl; omega
  have l3 : a.length + b.length + c.length + 1 ≤ szl := by unfold szl; omega
  have s1 : evS 0 (.asg (.nm 3) (.bin .mod (.bin .div (.var 2) (.cst (.int 6))) (.bin .add (.b1 .len (.var 0)) (.cst (.int 1))))) [.im (.str w), .im (.tup [.str a, .str b, .str c]), .im (.int cell), .un, .un, .un] = .ok (.nx, [.im (.str w), .im (.tup [.str a, .str b, .str c]), .im (.int cell), .im (.int at_), .un, .un]) := by
    have h0 : (0 : Int) < (w.length : Int) + 1 := by omega
    simp [binD, modD, divD, addD, b1D, lenD, h0, hat]
  have s2 : evS 0 (.asg (.nm 4) (.bin .add (.bin .add (.bin .add (.idx (.var 1) (.cst (.int 0))) (.idx (.var 1) (.cst (.int 1)))) (.idx (.var 1) (.cst (.int 2)))) (.cst (.str [65])))) [.im (.str w), .im (.tup [.str a, .str b, .str c]), .im (.int cell), .im (.int at_), .un, .un] = .ok (.nx, [.im (.str w), .im (.tup [.str a, .str b, .str c]), .im (.int cell), .im (.int at_), .im (.str every), .un]) := by
    rw [← hev]
    have l2' : a.length + (b.length + c.length) ≤ szl := by omega
    have l3' : a.length + (b.length + (c.length + 1)) ≤ szl := by omega
    have l3'' : a.length + (b.length + c.length) + 1 ≤ szl := by omega
    simp [binD, addD, idxD, l1, l2, l3, l2', l3', l3'']
  have s3 : evS 0 (.asg (.nm 5) (.idx (.var 4) (.bin .mod (.bin .div (.var 2) (.cst (.int 66))) (.b1 .len (.var 4))))) [.im (.str w), .im (.tup [.str a, .str b, .str c]), .im (.int cell), .im (.int at_), .im (.str every), .un] = .ok (.nx, [.im (.str w), .im (.tup [.str a, .str b, .str c]), .im (.int cell), .im (.int at_), .im (.str every), .im (.str [ch])]) := by
    simp [binD, modD, divD, b1D, lenD, idxD, hle, hch]
  have hr0 : rho0 [.im, .im, .im] [.str w, .tup [.str a, .str b, .str c], .int cell] 6 = [.im (.str w), .im (.tup [.str a, .str b, .str c]), .im (.int cell), .un, .un, .un] := rfl
  have cl : ∀ lo hi, (cutD w lo hi).length ≤ 67 := fun lo hi => Nat.le_trans (cut_len w lo hi) hw
  have m6 := mod_b cell 6 (by omega)
  have hsix : cell % 6 = 0 ∨ cell % 6 = 1 ∨ cell % 6 = 2 ∨ cell % 6 = 3 ∨ cell % 6 = 4 ∨ cell % 6 = 5 := by omega
  suffices h : ∃ d ρ', tyOk d = true ∧ evSs 0 m__law_bent [.im (.str w), .im (.tup [.str a, .str b, .str c]), .im (.int cell), .un, .un, .un] = .ok (.ret d, ρ') by
    obtain ⟨d, ρ', h1, h2⟩ := h
    exact ⟨d, h1, run_ret (by rw [hr0]; exact h2) rfl⟩
  unfold m__law_bent
  rw [evSs_step s1, evSs_step s2, evSs_step s3]
  have c1 := cl none (some at_)
  have c2 := cl (some at_) none
  have c3 := cl (some (at_ + 1)) none
  have k1 : (cutD w none (some at_)).length + 1 ≤ szl := by unfold szl; omega
  have k2 : (cutD w none (some at_)).length + 1 + (cutD w (some at_) none).length ≤ szl := by unfold szl; omega
  have k3 : (cutD w none (some at_)).length + (cutD w (some (at_ + 1)) none).length ≤ szl := by unfold szl; omega
  have k4 : (cutD w none (some at_)).length + 1 + (cutD w (some (at_ + 1)) none).length ≤ szl := by unfold szl; omega
  rcases hsix with h | h | h | h | h | h
  · exact ⟨.str w, [.im (.str w), .im (.tup [.str a, .str b, .str c]), .im (.int cell), .im (.int at_), .im (.str every), .im (.str [ch])], rfl, by simp [evSs_cons, binD, modD, cmpD, eqOk, eqD, D.dep, h]⟩
  · refine ⟨.str (cutD w none (some at_) ++ [ch] ++ cutD w (some at_) none), [.im (.str w), .im (.tup [.str a, .str b, .str c]), .im (.int cell), .im (.int at_), .im (.str every), .im (.str [ch])], rfl, ?_⟩
    simp [evSs_cons, binD, modD, addD, cmpD, eqOk, eqD, D.dep, h, slD, k1, k2]
  · refine ⟨.str (cutD w none (some at_) ++ cutD w (some (at_ + 1)) none), [.im (.str w), .im (.tup [.str a, .str b, .str c]), .im (.int cell), .im (.int at_), .im (.str every), .im (.str [ch])], rfl, ?_⟩
    simp [evSs_cons, binD, modD, addD, cmpD, eqOk, eqD, D.dep, h, slD, k3]
  · refine ⟨.str (cutD w none (some at_) ++ [ch] ++ cutD w (some (at_ + 1)) none), [.im (.str w), .im (.tup [.str a, .str b, .str c]), .im (.int cell), .im (.int at_), .im (.str every), .im (.str [ch])], rfl, ?_⟩
    simp [evSs_cons, binD, modD, addD, cmpD, eqOk, eqD, D.dep, h, slD, k1, k4]
  · have m8 := mod_b (cell / 6) 8 (by omega)
    obtain ⟨d, hd, hm⟩ := ix_any [.non, .int 5, .bl true, .lst (w.map fun c => .str [c]), .tup [.str w], .dic [] [], .str (w ++ [10]), .str (w ++ [32])] (cell / 6 % 8) m8.1 m8.2
    have hk : tyOk d = true := by
      simp at hm
      rcases hm with rfl | rfl | rfl | rfl | rfl | rfl | rfl | rfl <;> rfl
    refine ⟨d, [.im (.str w), .im (.tup [.str a, .str b, .str c]), .im (.int cell), .im (.int at_), .im (.str every), .im (.str [ch])], hk, ?_⟩
    have lw : w.length + 1 ≤ szl := by unfold szl; omega
    rw [evSs_step (ρ' := [.im (.str w), .im (.tup [.str a, .str b, .str c]), .im (.int cell), .im (.int at_), .im (.str every), .im (.str [ch])]) (by simp [evSs_cons, binD, modD, cmpD, eqOk, eqD, D.dep, h])]
    rw [evSs_step (ρ' := [.im (.str w), .im (.tup [.str a, .str b, .str c]), .im (.int cell), .im (.int at_), .im (.str every), .im (.str [ch])]) (by simp [evSs_cons, binD, modD, cmpD, eqOk, eqD, D.dep, h])]
    rw [evSs_step (ρ' := [.im (.str w), .im (.tup [.str a, .str b, .str c]), .im (.int cell), .im (.int at_), .im (.str every), .im (.str [ch])]) (by simp [evSs_cons, binD, modD, cmpD, eqOk, eqD, D.dep, h])]
    refine evSs_done ?_
    simp [evSs_cons, binD, modD, divD, addD, cmpD, eqOk, eqD, D.dep, h, b1D, lw, idxD, hd]
  · refine ⟨.str w.reverse, [.im (.str w), .im (.tup [.str a, .str b, .str c]), .im (.int cell), .im (.int at_), .im (.str every), .im (.str [ch])], rfl, ?_⟩
    simp [evSs_cons, binD, modD, cmpD, eqOk, eqD, D.dep, h]
end K1

namespace K1
open NV
@[simp] theorem owAt_eq (ρ : Rho) (i : Nat) : owAt ρ i = match ρ[i]? with
  | some (.ow d) => some (d, Ent.ow)
  | some (.io d) => some (d, Ent.io)
  | _ => none := rfl
@[simp] theorem evS_app (n i : Nat) (e : ME) (ρ : Rho) : evS n (.app i e) ρ = match owAt ρ i with
    | some (.lst _, _) => (ev e ρ).bind fun x => match owAt x.2 i with
      | some (d, f) => match appW d x.1 with
        | some d' => .ok (.nx, x.2.set i (f d'))
        | none => .stuck
      | none => .stuck
    | _ => .stuck := rfl
@[simp] theorem evS_setI (n i : Nat) (k v : ME) (ρ : Rho) : evS n (.setI i k v) ρ = (ev v ρ).bind fun x => match owAt x.2 i with
    | some _ => (ev k x.2).bind fun y => match owAt y.2 i with
      | some (d, f) => match setIW d y.1 x.1 with
        | some d' => .ok (.nx, y.2.set i (f d'))
        | none => .stuck
      | none => .stuck
    | none => .stuck := rfl
def tBody : List MS := [.asg (.nm 8) (.bin .mod (.bin .div (.call E__law_cell_at [(.var 0), (.cst (.int 1))]) (.idx (.lst [(.cst (.int 1)), (.cst (.int 6)), (.cst (.int 36))]) (.var 5))) (.cst (.int 6))), .app 3 (.join (.cst (.str [])) (.comp (.idx (.var 1) (.bin .mod (.bin .add (.var 4) (.var 11)) (.cst (.int 26)))) (.nm 11) .rng1 [(.var 8)] [] [11])), .asg (.nm 4) (.bin .sub (.bin .add (.var 4) (.var 8)) (.b1 .int (.and [(.cmp .eq (.bin .mod (.bin .div (.var 2) (.cst (.int 26))) (.cst (.int 5))) (.var 5)), (.cmp .gt (.var 8) (.cst (.int 0)))])))]
def tRho (ns : List Int) (f0 : Int) (ts : List (List Nat)) (at_ : Int) (e5 e8 : Ent) : Rho := [.im (.scr ns), .im (.str abc), .im (.int f0), .ow (.lst (ts.map D.str)), .im (.int at_), e5, .un, .un, e8, .un, .un, .un]
def tInv (ns : List Int) (f0 : Int) (i : Nat) (ρ : Rho) : Prop := ∃ (ts : List (List Nat)) (at_ : Int) (e5 e8 : Ent), ρ = tRho ns f0 ts at_ e5 e8 ∧ isUI e5 = true ∧ isUI e8 = true ∧ ts.length = i ∧ ∀ t ∈ ts, t.length ≤ 5
def lets (at_ : Int) (n : Nat) : List Nat := (List.range n).map fun k : Nat => 97 + ((at_ + k) % 26).toNat
theorem t_step (ns : List Int) (f0 : Int) (ts : List (List Nat)) (at_ : Int) (e8 : Ent) (j : Nat) (hj : j < 3) (h8 : isUI e8 = true) (hl : ts.length = j) (h5 : ∀ t ∈ ts, t.length ≤ 5) :
    ∃ ρ', evSs 0 tBody (tRho ns f0 ts at_ (.im (.int j)) e8) = .ok (.nx, ρ') ∧ tInv ns f0 (j + 1) ρ' := by
  have hcell : E__law_cell_at.F [.scr ns, .int 1] = .ok (.int (ns.getD 1 0), []) := cell_at_eq ns 1
  generalize hc : ns.getD 1 0 = c1 at hcell
  obtain ⟨v, hv, hv0, hv1⟩ : ∃ v : Int, ixD [D.int 1, D.int 6, D.int 36] (j : Int) = some (.int v) ∧ 0 < v ∧ v < 1073741824 := by
    have : j = 0 ∨ j = 1 ∨ j = 2 := by omega
    rcases this with rfl | rfl | rfl
    · exact ⟨1, rfl, by decide, by decide⟩
    · exact ⟨6, rfl, by decide, by decide⟩
    · exact ⟨36, rfl, by decide, by decide⟩
  have m6 := mod_b (c1 / v) 6 (by omega)
  obtain ⟨n, hn⟩ : ∃ n : Nat, c1 / v % 6 = n := ⟨(c1 / v % 6).toNat, by omega⟩
  have hn5 : n ≤ 5 := by omega
  have s1 : evS 0 (.asg (.nm 8) (.bin .mod (.bin .div (.call E__law_cell_at [(.var 0), (.cst (.int 1))]) (.idx (.lst [(.cst (.int 1)), (.cst (.int 6)), (.cst (.int 36))]) (.var 5))) (.cst (.int 6)))) (tRho ns f0 ts at_ (.im (.int j)) e8) = .ok (.nx, tRho ns f0 ts at_ (.im (.int j)) (.im (.int n))) := by
    rcases isUI_or h8 with rfl | ⟨_, rfl⟩ <;> simp [tRho, hcell, idxD, hv, binD, divD, modD, hv0, hv1, hn]
  have e := compLoop_map (elt := ev (.idx (.var 1) (.bin .mod (.bin .add (.var 4) (.var 11)) (.cst (.int 26))))) (ifs := evIfs []) (tg := .nm 11) (own := [11]) (ρ := tRho ns f0 ts at_ (.im (.int j)) (.im (.int n)))
    (f := fun d => match d with | .int k => .str [97 + ((at_ + k) % 26).toNat] | _ => .non) (items := rngD 0 n) (fun d hd => by
      obtain ⟨k, _, rfl⟩ := List.mem_map.mp hd
      have hm := mod_b (at_ + ((0 : Int) + k)) 26 (by omega)
      have hi := ix_abc _ hm.1 hm.2
      simp only [Int.zero_add] at hi
      simp [tRho, compStep, binD, addD, modD, idxD, hi, wiped])
  have e2 : (rngD 0 n).map (fun d => match d with | .int k => D.str [97 + ((at_ + k) % 26).toNat] | _ => .non) = (lets at_ n).map fun x => D.str [x] := by
    unfold rngD lets
    rw [List.map_map, List.map_map]
    simp [Function.comp_def]
  rw [e2] at e
  have hln : (lets at_ n).length = n := by simp [lets]
  have as := allStr_map (fun x : Nat => [x]) (lets at_ n)
  have jl := joinL_nil_sing (lets at_ n)
  have hle : (List.map (List.length ∘ fun x => [x]) (lets at_ n)).sum ≤ 16777216 := by rw [sum_sing, hln]; omega
  have hz : (rngD 0 n).length ≤ szl := by unfold rngD szl; rw [List.length_map, List.length_range]; omega
  have hr : iterD .rng1 [.int n] = some (rngD 0 n) := by
    show (if (n : Int).natAbs ≤ 16777216 then some (rngD 0 (n : Int).toNat) else none) = _
    rw [if_pos (by omega), Int.toNat_natCast]
  have hts : ts.length < 16777215 := by omega
  have s2 : evS 0 (.app 3 (.join (.cst (.str [])) (.comp (.idx (.var 1) (.bin .mod (.bin .add (.var 4) (.var 11)) (.cst (.int 26)))) (.nm 11) .rng1 [(.var 8)] [] [11]))) (tRho ns f0 ts at_ (.im (.int j)) (.im (.int n))) = .ok (.nx, tRho ns f0 (ts ++ [lets at_ n]) at_ (.im (.int j)) (.im (.int n))) := by
    have e' := e
    simp only [tRho] at e'
    simp [tRho, ev_comp, lockE, unlockE, hz, e', as, jl, hr, hle, appW, hts]
  have s3 : ∃ at', evS 0 (.asg (.nm 4) (.bin .sub (.bin .add (.var 4) (.var 8)) (.b1 .int (.and [(.cmp .eq (.bin .mod (.bin .div (.var 2) (.cst (.int 26))) (.cst (.int 5))) (.var 5)), (.cmp .gt (.var 8) (.cst (.int 0)))])))) (tRho ns f0 (ts ++ [lets at_ n]) at_ (.im (.int j)) (.im (.int n))) = .ok (.nx, tRho ns f0 (ts ++ [lets at_ n]) at' (.im (.int j)) (.im (.int n))) := by
    by_cases hq : (f0 / 26 % 5 == (j : Int)) = true
    · by_cases hp : n = 0
      · exact ⟨at_ + n - 0, by simp only [tRho] at *; simp [binD, divD, modD, addD, subD, cmpD, eqOk, eqD, D.dep, b1D, hq, hp]⟩
      · have hp' : 0 < n := by omega
        exact ⟨at_ + n - 1, by simp only [tRho] at *; simp [binD, divD, modD, addD, subD, cmpD, eqOk, eqD, D.dep, b1D, hq, hp']⟩
    · have hq' : (f0 / 26 % 5 == (j : Int)) = false := by simpa using hq
      exact ⟨at_ + n - 0, by simp only [tRho] at *; simp [binD, divD, modD, addD, subD, cmpD, eqOk, eqD, D.dep, b1D, hq']⟩
  obtain ⟨at', s3⟩ := s3
  refine ⟨tRho ns f0 (ts ++ [lets at_ n]) at' (.im (.int j)) (.im (.int n)), ?_, _, _, _, _, rfl, rfl, rfl, by simp [hl], fun t ht => ?_⟩
  · unfold tBody
    rw [evSs_step s1, evSs_step s2, evSs_step s3]
    rfl
  · rcases List.mem_append.mp ht with h | h
    · exact h5 t h
    · rw [List.mem_singleton.mp h, hln]; exact hn5
end K1

namespace K1
open NV
@[simp] theorem evS_asgF_lst (n i : Nat) (l : List ME) (ρ : Rho) : evS n (.asgF i (.lst l)) ρ = (ev (.lst l) ρ).bind fun x => match setE x.2 i (.ow x.1) with
    | some ρ' => .ok (.nx, ρ')
    | none => .stuck := rfl
@[simp] theorem evS_retFv (n i : Nat) (ρ : Rho) : evS n (.retF (.var i)) ρ = match ρ[i]? with
      | some (.ow d) => .ok (.ret d, ρ.set i .un)
      | _ => .stuck := rfl
theorem texts_by_ex (ns : List Int) : ∃ ts : List (List Nat), ts.length = 3 ∧ (∀ t ∈ ts, t.length ≤ 12) ∧ E__law_texts_by.F [.scr ns] = .ok (.lst (ts.map D.str), []) := by
  rw [F__law_texts_by]
  have hc0 : E__law_cell_at.F [.scr ns, .int 0] = .ok (.int (ns.getD 0 0), []) := cell_at_eq ns 0
  generalize hf : ns.getD 0 0 = f0 at hc0
  obtain ⟨ρ1, f1, w1⟩ := for_inv (body := evSs 0 tBody) (tg := .nm 5) (tInv ns f0) (rngD 0 3) 0 (tRho ns f0 [] (f0 % 26) .un .un) ⟨[], _, _, _, rfl, rfl, rfl, rfl, fun t ht => by cases ht⟩ fun j ρ d hd hi => by
    obtain ⟨ts, at_, e5, e8, rfl, h5, h8, hl, ht⟩ := hi
    have hj := lt_of_get hd
    have hjn : j < 3 := by simpa [rngD] using hj
    have hd' : d = .int j := by
      unfold rngD at hd
      rw [List.getElem?_map, List.getElem?_range hjn] at hd
      cases hd
      simp
    subst hd'
    obtain ⟨ρ', s1, s2⟩ := t_step ns f0 ts at_ e8 j hjn h8 (by omega) ht
    exact ⟨_, ρ', by rcases isUI_or h5 with rfl | ⟨_, rfl⟩ <;> rfl, s1, by rw [Nat.zero_add]; exact s2⟩
  obtain ⟨ts, at_, e5, e8, rfl, h5, h8, hl, ht⟩ := w1
  have hl3 : ts.length = 3 := by rw [hl]; rfl
  have hm : m__law_texts_by = [.asg (.nm 1) (.cst (.str abc)), .asg (.nm 2) (.call E__law_cell_at [(.var 0), (.cst (.int 0))]), .asgF 3 (.lst []), .asg (.nm 4) (.bin .mod (.var 2) (.cst (.int 26))), .for (.nm 5) .rng1 [(.cst (.int 3))] tBody,
     .asg (.nm 6) (.bin .mod (.bin .div (.var 2) (.cst (.int 130))) (.cst (.int 3))), .asg (.nm 7) (.idx (.lst [(.cst (.str [65])), (.cst (.str [49])), (.cst (.str [32])), (.cst (.str [10])), (.cst (.str [45])), (.cst (.str [95])), (.cst (.str [97, 97])), (.cst (.str [97, 98])), (.cst (.str []))]) (.bin .mod (.bin .div (.var 2) (.cst (.int 390))) (.cst (.int 9)))),
     .ite (.cmp .eq (.bin .mod (.bin .div (.var 2) (.cst (.int 26))) (.cst (.int 5))) (.cst (.int 3))) [.asg (.nm 9) (.bin .mod (.bin .div (.var 2) (.cst (.int 3510))) (.cst (.int 5))), .asg (.nm 10) (.idx (.var 3) (.var 6)), .setI 3 (.var 6) (.bin .add (.bin .add (.sl (.var 10) [] [(.var 9)]) (.var 7)) (.sl (.var 10) [(.var 9)] []))] [], .retF (.var 3)] := rfl
  rw [hm]
  have hr0 : rho0 [.im] [.scr ns] 12 = [.im (.scr ns), .un, .un, .un, .un, .un, .un, .un, .un, .un, .un, .un] := rfl
  have s2 : evS 0 (.asg (.nm 2) (.call E__law_cell_at [(.var 0), (.cst (.int 0))])) [.im (.scr ns), .im (.str abc), .un, .un, .un, .un, .un, .un, .un, .un, .un, .un] = .ok (.nx, [.im (.scr ns), .im (.str abc), .im (.int f0), .un, .un, .un, .un, .un, .un, .un, .un, .un]) := by
    simp [hc0]
  have s4 : evS 0 (.asg (.nm 4) (.bin .mod (.var 2) (.cst (.int 26)))) [.im (.scr ns), .im (.str abc), .im (.int f0), .ow (.lst []), .un, .un, .un, .un, .un, .un, .un, .un] = .ok (.nx, tRho ns f0 [] (f0 % 26) .un .un) := by
    simp [binD, modD, tRho]
  have s5 : evS 0 (.for (.nm 5) .rng1 [(.cst (.int 3))] tBody) (tRho ns f0 [] (f0 % 26) .un .un) = .ok (.nx, tRho ns f0 ts at_ e5 e8) := by
    rw [evS_for]
    have hr : iterD .rng1 [.int 3] = some (rngD 0 3) := rfl
    simp [lockE, unlockE, hr, f1]
  have m3 := mod_b (f0 / 130) 3 (by omega)
  have m9 := mod_b (f0 / 390) 9 (by omega)
  obtain ⟨pl, hpl⟩ : ∃ n : Nat, f0 / 130 % 3 = n := ⟨(f0 / 130 % 3).toNat, by omega⟩
  obtain ⟨od, hod, hodl⟩ : ∃ od : List Nat, ixD [D.str [65], D.str [49], D.str [32], D.str [10], D.str [45], D.str [95], D.str [97, 97], D.str [97, 98], D.str []] (f0 / 390 % 9) = some (.str od) ∧ od.length ≤ 2 := by
    obtain ⟨d, h1, h2⟩ := ix_any [D.str [65], D.str [49], D.str [32], D.str [10], D.str [45], D.str [95], D.str [97, 97], D.str [97, 98], D.str []] (f0 / 390 % 9) m9.1 m9.2
    simp at h2
    rcases h2 with rfl | rfl | rfl | rfl | rfl | rfl | rfl | rfl | rfl <;> exact ⟨_, h1, by simp⟩
  have s6 : evS 0 (.asg (.nm 6) (.bin .mod (.bin .div (.var 2) (.cst (.int 130))) (.cst (.int 3)))) (tRho ns f0 ts at_ e5 e8) = .ok (.nx, [.im (.scr ns), .im (.str abc), .im (.int f0), .ow (.lst (ts.map D.str)), .im (.int at_), e5, .im (.int pl), .un, e8, .un, .un, .un]) := by
    simp [tRho, binD, modD, divD, hpl]
  have s7 : evS 0 (.asg (.nm 7) (.idx (.lst [(.cst (.str [65])), (.cst (.str [49])), (.cst (.str [32])), (.cst (.str [10])), (.cst (.str [45])), (.cst (.str [95])), (.cst (.str [97, 97])), (.cst (.str [97, 98])), (.cst (.str []))]) (.bin .mod (.bin .div (.var 2) (.cst (.int 390))) (.cst (.int 9))))) [.im (.scr ns), .im (.str abc), .im (.int f0), .ow (.lst (ts.map D.str)), .im (.int at_), e5, .im (.int pl), .un, e8, .un, .un, .un] = .ok (.nx, [.im (.scr ns), .im (.str abc), .im (.int f0), .ow (.lst (ts.map D.str)), .im (.int at_), e5, .im (.int pl), .im (.str od), e8, .un, .un, .un]) := by
    simp [binD, modD, divD, idxD, hod]
  have go : ∀ (ts' : List (List Nat)) (ρ' : Rho), evSs 0 [.ite (.cmp .eq (.bin .mod (.bin .div (.var 2) (.cst (.int 26))) (.cst (.int 5))) (.cst (.int 3))) [.asg (.nm 9) (.bin .mod (.bin .div (.var 2) (.cst (.int 3510))) (.cst (.int 5))), .asg (.nm 10) (.idx (.var 3) (.var 6)), .setI 3 (.var 6) (.bin .add (.bin .add (.sl (.var 10) [] [(.var 9)]) (.var 7)) (.sl (.var 10) [(.var 9)] []))] [], .retF (.var 3)] [.im (.scr ns), .im (.str abc), .im (.int f0), .ow (.lst (ts.map D.str)), .im (.int at_), e5, .im (.int pl), .im (.str od), e8, .un, .un, .un] = .ok (.ret (.lst (ts'.map D.str)), ρ') → runF [.im] 12 true 0 [.asg (.nm 1) (.cst (.str abc)), .asg (.nm 2) (.call E__law_cell_at [(.var 0), (.cst (.int 0))]), .asgF 3 (.lst []), .asg (.nm 4) (.bin .mod (.var 2) (.cst (.int 26))), .for (.nm 5) .rng1 [(.cst (.int 3))] tBody,
     .asg (.nm 6) (.bin .mod (.bin .div (.var 2) (.cst (.int 130))) (.cst (.int 3))), .asg (.nm 7) (.idx (.lst [(.cst (.str [65])), (.cst (.str [49])), (.cst (.str [32])), (.cst (.str [10])), (.cst (.str [45])), (.cst (.str [95])), (.cst (.str [97, 97])), (.cst (.str [97, 98])), (.cst (.str []))]) (.bin .mod (.bin .div (.var 2) (.cst (.int 390))) (.cst (.int 9)))),
     .ite (.cmp .eq (.bin .mod (.bin .div (.var 2) (.cst (.int 26))) (.cst (.int 5))) (.cst (.int 3))) [.asg (.nm 9) (.bin .mod (.bin .div (.var 2) (.cst (.int 3510))) (.cst (.int 5))), .asg (.nm 10) (.idx (.var 3) (.var 6)), .setI 3 (.var 6) (.bin .add (.bin .add (.sl (.var 10) [] [(.var 9)]) (.var 7)) (.sl (.var 10) [(.var 9)] []))] [], .retF (.var 3)] [.scr ns] = .ok (.lst (ts'.map D.str), []) := fun ts' ρ' h => by
    refine run_ret (ρ' := ρ') ?_ rfl
    rw [hr0, evSs_step (ρ' := [.im (.scr ns), .im (.str abc), .un, .un, .un, .un, .un, .un, .un, .un, .un, .un]) rfl, evSs_step s2, evSs_step (ρ' := [.im (.scr ns), .im (.str abc), .im (.int f0), .ow (.lst []), .un, .un, .un, .un, .un, .un, .un, .un]) rfl, evSs_step s4, evSs_step s5, evSs_step s6, evSs_step s7]
    exact h
  by_cases hq : f0 / 26 % 5 = 3
  · have hpl3 : pl < ts.length := by omega
    obtain ⟨cu, hcu⟩ : ∃ cu : Int, f0 / 3510 % 5 = cu := ⟨_, rfl⟩
    have hrow : ixD (ts.map D.str) (pl : Int) = some (.str ts[pl]) := by
      unfold ixD
      rw [if_pos (by omega), Int.toNat_natCast, List.getElem?_map, List.getElem?_eq_getElem hpl3]
      rfl
    have hrl : ts[pl].length ≤ 5 := ht _ (List.getElem_mem hpl3)
    have c1 := cut_len ts[pl] none (some cu)
    have c2 := cut_len ts[pl] (some cu) none
    have k1 : (cutD ts[pl] none (some cu)).length + od.length ≤ szl := by unfold szl; omega
    have k2 : (cutD ts[pl] none (some cu)).length + od.length + (cutD ts[pl] (some cu) none).length ≤ szl := by unfold szl; omega
    refine ⟨ts.set pl (cutD ts[pl] none (some cu) ++ od ++ cutD ts[pl] (some cu) none), by simp [hl3], fun t h => ?_, go _ [.im (.scr ns), .im (.str abc), .im (.int f0), .un, .im (.int at_), e5, .im (.int pl), .im (.str od), e8, .im (.int cu), .im (.str ts[pl]), .un] ?_⟩
    · rcases List.mem_or_eq_of_mem_set h with h | h
      · have := ht t h; omega
      · rw [h]; simp; omega
    · simp [evSs_cons, binD, modD, divD, addD, cmpD, eqOk, eqD, D.dep, hq, hcu, idxD, hrow, slD, k1, k2, setIW, hpl3]
  · have hq' : (f0 / 26 % 5 == 3) = false := by simpa using hq
    refine ⟨ts, hl3, fun t h => by have := ht t h; omega, go ts [.im (.scr ns), .im (.str abc), .im (.int f0), .un, .im (.int at_), e5, .im (.int pl), .im (.str od), e8, .un, .un, .un] ?_⟩
    simp [evSs_cons, binD, modD, divD, cmpD, eqOk, eqD, D.dep, hq']
end K1

namespace K1
open NV
@[simp] theorem evS_asgF_call (n i : Nat) (f : FnE) (l : List ME) (ρ : Rho) : evS n (.asgF i (.call f l)) ρ = if f.fresh then (ev (.call f l) ρ).bind fun x => match setE x.2 i (.ow x.1) with
    | some ρ' => .ok (.nx, ρ')
    | none => .stuck else .stuck := rfl
theorem ty_str (l : List (List Nat)) : (l.map D.str).all tyOk = true := by
  rw [List.all_eq_true]
  intro x hx
  obtain ⟨s, _, rfl⟩ := List.mem_map.mp hx
  rfl
theorem thing_by_ex (ns : List Int) : ∃ d, okT d = true ∧ E__law_thing_by.F [.scr ns] = .ok (d, []) := by
  obtain ⟨ts, hl3, ht, hts⟩ := texts_by_ex ns
  have hc2 : E__law_cell_at.F [.scr ns, .int 2] = .ok (.int (ns.getD 2 0), []) := cell_at_eq ns 2
  have hc3 : E__law_cell_at.F [.scr ns, .int 3] = .ok (.int (ns.getD 3 0), []) := cell_at_eq ns 3
  generalize ns.getD 2 0 = c2 at hc2
  generalize ns.getD 3 0 = c3 at hc3
  rw [F__law_thing_by]
  have hfr : E__law_texts_by.fresh = true := rfl
  have m3 := mod_b (c2 / 9) 3 (by omega)
  obtain ⟨pl, hpl⟩ : ∃ n : Nat, c2 / 9 % 3 = n := ⟨(c2 / 9 % 3).toNat, by omega⟩
  have hr0 : rho0 [.im] [.scr ns] 5 = [.im (.scr ns), .un, .un, .un, .un] := rfl
  have s1 : evS 0 (.asgF 1 (.call E__law_texts_by [(.var 0)])) [.im (.scr ns), .un, .un, .un, .un] = .ok (.nx, [.im (.scr ns), .ow (.lst (ts.map D.str)), .un, .un, .un]) := by
    simp [hfr, hts]
  have s2 : evS 0 (.asg (.nm 2) (.bin .mod (.call E__law_cell_at [(.var 0), (.cst (.int 2))]) (.cst (.int 9)))) [.im (.scr ns), .ow (.lst (ts.map D.str)), .un, .un, .un] = .ok (.nx, [.im (.scr ns), .ow (.lst (ts.map D.str)), .im (.int (c2 % 9)), .un, .un]) := by
    simp [hc2, binD, modD]
  have s3 : evS 0 (.asg (.nm 3) (.bin .mod (.bin .div (.call E__law_cell_at [(.var 0), (.cst (.int 2))]) (.cst (.int 9))) (.cst (.int 3)))) [.im (.scr ns), .ow (.lst (ts.map D.str)), .im (.int (c2 % 9)), .un, .un] = .ok (.nx, [.im (.scr ns), .ow (.lst (ts.map D.str)), .im (.int (c2 % 9)), .im (.int pl), .un]) := by
    simp [hc2, binD, modD, divD, hpl]
  suffices h : ∃ d ρ', okT d = true ∧ evSs 0 (m__law_thing_by.drop 3) [.im (.scr ns), .ow (.lst (ts.map D.str)), .im (.int (c2 % 9)), .im (.int pl), .un] = .ok (.ret d, ρ') by
    obtain ⟨d, ρ', h1, h2⟩ := h
    refine ⟨d, h1, run_ret (ρ' := ρ') ?_ rfl⟩
    rw [hr0]
    unfold m__law_thing_by at h2 ⊢
    rw [evSs_step s1, evSs_step s2, evSs_step s3]
    exact h2
  unfold m__law_thing_by
  simp only [List.drop_succ_cons, List.drop_zero]
  by_cases q0 : c2 % 9 = 0
  · have m8 := mod_b c3 8 (by omega)
    obtain ⟨d, hd, hm⟩ := ix_any [.tup (cutD (ts.map D.str) none (some 2)), .tup (ts.map D.str ++ [.str []]), .lst (ts.map D.str), .str [97, 98, 99], .non, .int 7, .tup [], .dic [] []] (c3 % 8) m8.1 m8.2
    have hk : okT d = true := by
      simp at hm
      rcases hm with rfl | rfl | rfl | rfl | rfl | rfl | rfl | rfl
      · show (cutD (ts.map D.str) none (some 2)).all tyOk = true
        rw [List.all_eq_true]
        exact fun x hx => List.all_eq_true.mp (ty_str ts) x (cut_sub _ _ _ x hx)
      · show (ts.map D.str ++ [D.str []]).all tyOk = true
        rw [List.all_append, ty_str]
        rfl
      all_goals rfl
    have l1 : ts.length + 1 ≤ szl := by unfold szl; omega
    refine ⟨d, [.im (.scr ns), .ow (.lst (ts.map D.str)), .im (.int (c2 % 9)), .im (.int pl), .im (.lst [.tup (cutD (ts.map D.str) none (some 2)), .tup (ts.map D.str ++ [.str []]), .lst (ts.map D.str), .str [97, 98, 99], .non, .int 7, .tup [], .dic [] []])], hk, ?_⟩
    rw [q0]
    simp [evSs_cons, cmpD, eqOk, eqD, D.dep, hc3, binD, modD, addD, slD, b1D, idxD, l1, hd]
  · have q0' : (c2 % 9 == 0) = false := by simpa using q0
    rw [evSs_step (ρ' := [.im (.scr ns), .ow (.lst (ts.map D.str)), .im (.int (c2 % 9)), .im (.int pl), .un]) (by simp [cmpD, eqOk, eqD, D.dep, q0'])]
    by_cases q1 : c2 % 9 = 1
    · have m6 := mod_b c3 6 (by omega)
      obtain ⟨x, hx, hm⟩ := ix_any [.non, .int 5, .bl true, .lst [.str [97]], .tup [.str [97]], .dic [] []] (c3 % 6) m6.1 m6.2
      have hk : tyOk x = true := by
        simp at hm
        rcases hm with rfl | rfl | rfl | rfl | rfl | rfl <;> rfl
      have hpl3 : pl < ts.length := by omega
      have s5 : evS 0 (.ite (.cmp .eq (.var 2) (.cst (.int 1))) [.setI 1 (.var 3) (.idx (.lst [(.cst .non), (.cst (.int 5)), (.cst (.bl true)), (.lst [(.cst (.str [97]))]), (.tup [(.cst (.str [97]))]), .emp]) (.bin .mod (.call E__law_cell_at [(.var 0), (.cst (.int 3))]) (.cst (.int 6))))] []) [.im (.scr ns), .ow (.lst (ts.map D.str)), .im (.int (c2 % 9)), .im (.int pl), .un] = .ok (.nx, [.im (.scr ns), .ow (.lst ((ts.map D.str).set pl x)), .im (.int (c2 % 9)), .im (.int pl), .un]) := by
        rw [q1]
        simp [evSs_cons, cmpD, eqOk, eqD, D.dep, hc3, binD, modD, idxD, hx, setIW, hpl3]
      rw [evSs_step s5]
      refine ⟨.tup ((ts.map D.str).set pl x), [.im (.scr ns), .ow (.lst ((ts.map D.str).set pl x)), .im (.int (c2 % 9)), .im (.int pl), .un], ?_, by simp [evSs_cons, b1D]⟩
      show ((ts.map D.str).set pl x).all tyOk = true
      rw [List.all_eq_true]
      intro y hy
      rcases List.mem_or_eq_of_mem_set hy with h | h
      · exact List.all_eq_true.mp (ty_str ts) y h
      · rw [h]; exact hk
    · have q1' : (c2 % 9 == 1) = false := by simpa using q1
      rw [evSs_step (ρ' := [.im (.scr ns), .ow (.lst (ts.map D.str)), .im (.int (c2 % 9)), .im (.int pl), .un]) (by simp [cmpD, eqOk, eqD, D.dep, q1'])]
      exact ⟨.tup (ts.map D.str), [.im (.scr ns), .ow (.lst (ts.map D.str)), .im (.int (c2 % 9)), .im (.int pl), .un], ty_str ts, by simp [evSs_cons, b1D]⟩
end K1

namespace K1
open NV
def lB1 : List MS := [.asg (.nm 8) (.ife (.call E__law_good [(.var 1)]) (.cst (.bl true)) (.tup [(.cst (.str [114, 101, 102, 117, 115, 101, 100])), (.cst (.bl true))])), .ite (.cmp .ne (.call E__law_asked [(.var 1), (.cst (.str [])), (.cst (.int 0))]) (.var 8)) [.ret (.cst (.bl false))] []]
def lB2 : List MS := [.asg (.nm 8) (.ife (.call E__law_is_word [(.var 3), (.var 5)]) (.cst (.bl true)) (.tup [(.cst (.str [114, 101, 102, 117, 115, 101, 100])), (.cst (.bl true))])), .ite (.cmp .ne (.call E__law_asked [(.var 3), (.var 5), (.cst (.int 1))]) (.var 8)) [.ret (.cst (.bl false))] []]
def lB3 : List MS := [.asg (.nm 9) (.bin .add (.comp (.var 11) (.tp [11, 12]) .zip [(.tup [(.cst (.str [111, 112, 101, 110])), (.cst (.str [99, 108, 111, 115, 101])), (.cst (.str [111, 110]))]), (.var 3)] [(.cmp .isin (.var 6) (.var 12))] [11, 12]) (.lst [(.cst (.str []))])), .ite (.cmp .ne (.call E_kind_of [(.var 3), (.var 6)]) (.idx (.var 9) (.cst (.int 0)))) [.ret (.cst (.bl false))] []]
@[simp] theorem compLoop_nil (elt : Ev) (ifs : Rho → Out Rho (Bool × Rho)) (tg : Tg) (own : List Nat) (ρ : Rho) : compLoop elt ifs tg own [] ρ = .ok ([], ρ) := rfl
@[simp] theorem compLoop_cons (elt : Ev) (ifs : Rho → Out Rho (Bool × Rho)) (tg : Tg) (own : List Nat) (d : D) (ds : List D) (ρ : Rho) : compLoop elt ifs tg own (d :: ds) ρ = (compStep elt ifs tg own d ρ).bind fun r => (compLoop elt ifs tg own ds r.2).bind fun q => .ok (r.1 ++ q.1, q.2) := rfl
theorem l1_step (ns : List Int) (th : D) (h : okT th = true) (e2 e8 : Ent) (h8 : isUI e8 = true) : ∃ d8, evSs 0 lB1 [.im (.scr ns), .im th, e2, .un, .un, .un, .un, .un, e8, .un, .un, .un, .un] = .ok (.nx, [.im (.scr ns), .im th, e2, .un, .un, .un, .un, .un, .im d8, .un, .un, .un, .un]) := by
  have ha := asked0 th (.str []) h rfl
  have hg := good_eq th h
  cases q : isSg th with
  | true =>
    rw [q] at ha hg
    exact ⟨.bl true, by rcases isUI_or h8 with rfl | ⟨_, rfl⟩ <;> simp [lB1, evSs_cons, ha, hg, cmpD, eqOk, eqD, D.dep]⟩
  | false =>
    rw [q] at ha hg
    exact ⟨refusedD, by rcases isUI_or h8 with rfl | ⟨_, rfl⟩ <;> simp [lB1, evSs_cons, ha, hg, cmpD, eqOk, eqD, eqL, D.dep, D.depL, refusedD]⟩
theorem l2_step (ns : List Int) (th cs wd : D) (a b c : List Nat) (h : tyOk wd = true) (e2 : Ent) (d8 : D) : ∃ d8', evSs 0 lB2 [.im (.scr ns), .im th, e2, .im (.tup [.str a, .str b, .str c]), .im cs, .im wd, .un, .un, .im d8, .un, .un, .un, .un] = .ok (.nx, [.im (.scr ns), .im th, e2, .im (.tup [.str a, .str b, .str c]), .im cs, .im wd, .un, .un, .im d8', .un, .un, .un, .un]) := by
  have ha := asked1 a b c wd h
  have hg := is_word_eq a b c wd h
  rw [word_nest] at ha
  cases q : isWord a b c wd with
  | true =>
    rw [q] at ha hg
    exact ⟨.bl true, by simp [lB2, evSs_cons, ha, hg, cmpD, eqOk, eqD, D.dep]⟩
  | false =>
    rw [q] at ha hg
    exact ⟨refusedD, by simp [lB2, evSs_cons, ha, hg, cmpD, eqOk, eqD, eqL, D.dep, D.depL, refusedD]⟩
theorem l3_step (ns : List Int) (th cs wd d8 : D) (a b c : List Nat) (e2 e9 : Ent) (x : Nat) (h9 : isUI e9 = true) : ∃ d9, evSs 0 lB3 [.im (.scr ns), .im th, e2, .im (.tup [.str a, .str b, .str c]), .im cs, .im wd, .im (.str [x]), .un, .im d8, e9, .un, .un, .un] = .ok (.nx, [.im (.scr ns), .im th, e2, .im (.tup [.str a, .str b, .str c]), .im cs, .im wd, .im (.str [x]), .un, .im d8, .im d9, .un, .un, .un]) := by
  have hk := kind_of_eq a b c (.str [x]) rfl
  have z3 : (3 : Nat) ≤ szl := by decide
  have z4 : (4 : Nat) ≤ szl := by decide
  have z2 : (2 : Nat) ≤ szl := by decide
  have z1 : (1 : Nat) ≤ szl := by decide
  refine ⟨.lst ((if x ∈ a then [.str sOpen] else []) ++ ((if x ∈ b then [.str sClose] else []) ++ (if x ∈ c then [.str sOn] else [])) ++ [.str []]), ?_⟩
  by_cases ha : x ∈ a <;> by_cases hb : x ∈ b <;> by_cases hc : x ∈ c <;> rcases isUI_or h9 with rfl | ⟨_, rfl⟩ <;>
    simp [lB3, evSs_cons, ev_comp, iterD, zipD, lockE, unlockE, z1, z2, z3, z4, compStep, wiped, cmpD, inD, ha, hb, hc, binD, addD, hk, kindOf, idxD, eqOk, eqD, D.dep]
end K1

namespace K1
open NV
theorem rng2 : rngD 0 2 = [.int 0, .int 1] := rfl
theorem odd_kind (a b c : List Nat) (d : D) (ha : ∀ x ∈ a, isLet x = true) (hb : ∀ x ∈ b, isLet x = true) (hc : ∀ x ∈ c, isLet x = true) (h : ∀ x, d = .str [x] → isLet x = false) : kindOf a b c d = [] := by
  unfold kindOf
  split
  · rename_i x
    have hx := h x rfl
    have n : ∀ l : List Nat, (∀ x ∈ l, isLet x = true) → x ∉ l := fun l hl z => by
      rw [hl x z] at hx
      cases hx
    rw [if_neg (n a ha), if_neg (n b hb), if_neg (n c hc)]
  · rfl
theorem law_eq : ∀ ns : List Int, ns.length ≤ 63 → E_law.F [.scr ns] = .ok (.bl true, []) := fun ns hl => by
  rw [F_law]
  obtain ⟨th, hth, e1⟩ := thing_by_ex ns
  have c4 : E__law_cell_at.F [.scr ns, .int 4] = .ok (.int (ns.getD 4 0), []) := cell_at_eq ns 4
  have c5 : E__law_cell_at.F [.scr ns, .int 5] = .ok (.int (ns.getD 5 0), []) := cell_at_eq ns 5
  generalize ns.getD 4 0 = v4 at c4
  generalize ns.getD 5 0 = v5 at c5
  have hsg := signs_by_eq v4
  have la := sgA_let v4
  have lb := sgB_let v4
  have lc := sgC_let v4
  have na := sgA_len v4
  have nb := sgB_len v4
  have nc := sgC_len v4
  unfold sgD at hsg
  generalize sgA v4 = a at hsg la na
  generalize sgB v4 = b at hsg lb nb
  generalize sgC v4 = c at hsg lc nc
  have hcl : (cutD ns (some 6) (some 46)).length ≤ 63 := Nat.le_trans (cut_len _ _ _) hl
  generalize hcs : cutD ns (some 6) (some 46) = cs0 at hcl
  obtain ⟨w, hw, e2⟩ := word_by_ex a b c (cs0.map fun z => mixed z 3) (by simpa using hcl)
  have hmx := mixed_eq v5 1
  obtain ⟨wd, hwd, e3⟩ := bent_ex w a b c (mixed v5 1) hw na nb nc
  generalize hcsd : D.lst ((cs0.map fun z => mixed z 3).map D.int) = csd at e2
  have hm : m_law = [.asg (.nm 1) (.call E__law_thing_by [(.var 0)]), .for (.nm 2) .rng1 [(.cst (.int 2))] lB1, .asg (.nm 3) (.call E__law_signs_by [(.call E__law_cell_at [(.var 0), (.cst (.int 4))])]), .asg (.nm 4) (.comp (.call E__law_mixed [(.var 10), (.cst (.int 3))]) (.nm 10) .seq [(.sl (.var 0) [(.cst (.int 6))] [(.cst (.int 46))])] [] [10]), .asg (.nm 5) (.call E__law_bent [(.call E__law_word_by [(.var 3), (.var 4)]), (.var 3), (.call E__law_mixed [(.call E__law_cell_at [(.var 0), (.cst (.int 5))]), (.cst (.int 1))])]), .for (.nm 2) .rng1 [(.cst (.int 2))] lB2, .for (.nm 6) .seq [(.cst (.str abc))] lB3,
     .asg (.nm 7) (.idx (.lst [(.cst (.str [])), (.cst (.str [65])), (.cst (.str [32])), (.cst .non), (.cst (.int 5)), (.cst (.bl true)), (.lst [(.cst (.str [97]))]), (.bin .add (.bin .add (.bin .add (.idx (.var 3) (.cst (.int 0))) (.idx (.var 3) (.cst (.int 1)))) (.idx (.var 3) (.cst (.int 2)))) (.cst (.str [97, 97])))]) (.bin .mod (.call E__law_cell_at [(.var 0), (.cst (.int 5))]) (.cst (.int 8)))), .ret (.and [(.cmp .eq (.call E_kind_of [(.var 3), (.var 7)]) (.cst (.str []))), (.isi (.call E_kind_of [(.var 3), (.var 7)]) "str")])] := rfl
  rw [hm]
  have hr : iterD .rng1 [.int 2] = some [.int 0, .int 1] := rfl
  have hr0 : rho0 [.im] [.scr ns] 13 = [.im (.scr ns), .un, .un, .un, .un, .un, .un, .un, .un, .un, .un, .un, .un] := rfl
  have s1 : evS 0 (.asg (.nm 1) (.call E__law_thing_by [(.var 0)])) [.im (.scr ns), .un, .un, .un, .un, .un, .un, .un, .un, .un, .un, .un, .un] = .ok (.nx, [.im (.scr ns), .im th, .un, .un, .un, .un, .un, .un, .un, .un, .un, .un, .un]) := by
    simp [e1]
  obtain ⟨d8, t1⟩ := l1_step ns th hth (.im (.int 0)) .un rfl
  obtain ⟨d8', t2⟩ := l1_step ns th hth (.im (.int 1)) (.im d8) rfl
  have s2 : evS 0 (.for (.nm 2) .rng1 [(.cst (.int 2))] lB1) [.im (.scr ns), .im th, .un, .un, .un, .un, .un, .un, .un, .un, .un, .un, .un] = .ok (.nx, [.im (.scr ns), .im th, .im (.int 1), .un, .un, .un, .un, .un, .im d8', .un, .un, .un, .un]) := by
    rw [evS_for]
    simp [hr, lockE, unlockE, t1, t2]
  have s3 : evS 0 (.asg (.nm 3) (.call E__law_signs_by [(.call E__law_cell_at [(.var 0), (.cst (.int 4))])])) [.im (.scr ns), .im th, .im (.int 1), .un, .un, .un, .un, .un, .im d8', .un, .un, .un, .un] = .ok (.nx, [.im (.scr ns), .im th, .im (.int 1), .im (.tup [.str a, .str b, .str c]), .un, .un, .un, .un, .im d8', .un, .un, .un, .un]) := by
    simp [c4, hsg]
  have s4 : evS 0 (.asg (.nm 4) (.comp (.call E__law_mixed [(.var 10), (.cst (.int 3))]) (.nm 10) .seq [(.sl (.var 0) [(.cst (.int 6))] [(.cst (.int 46))])] [] [10])) [.im (.scr ns), .im th, .im (.int 1), .im (.tup [.str a, .str b, .str c]), .un, .un, .un, .un, .im d8', .un, .un, .un, .un] = .ok (.nx, [.im (.scr ns), .im th, .im (.int 1), .im (.tup [.str a, .str b, .str c]), .im csd, .un, .un, .un, .im d8', .un, .un, .un, .un]) := by
    have e := compLoop_map (elt := ev (.call E__law_mixed [(.var 10), (.cst (.int 3))])) (ifs := evIfs []) (tg := .nm 10) (own := [10]) (ρ := [.im (.scr ns), .im th, .im (.int 1), .im (.tup [.str a, .str b, .str c]), .un, .un, .un, .un, .im d8', .un, .un, .un, .un])
      (f := fun d => match d with | .int k => .int (mixed k 3) | _ => .non) (items := cs0.map D.int) (fun d hd => by
        obtain ⟨k, _, rfl⟩ := List.mem_map.mp hd
        simp [compStep, mixed_eq, wiped])
    have e2' : (cs0.map D.int).map (fun d => match d with | .int k => D.int (mixed k 3) | _ => .non) = (cs0.map fun z => mixed z 3).map D.int := by
      rw [List.map_map, List.map_map]
      rfl
    rw [e2'] at e
    have hz : (cs0.map D.int).length ≤ szl := by unfold szl; rw [List.length_map]; omega
    have hz' : cs0.length ≤ szl := by unfold szl; omega
    rw [← hcsd]
    generalize hLL : (cs0.map fun z => mixed z 3).map D.int = LL at e
    simp [ev_comp, slD, hcs, iterD, itemsD, lockE, unlockE, hz', e]
  have s5 : evS 0 (.asg (.nm 5) (.call E__law_bent [(.call E__law_word_by [(.var 3), (.var 4)]), (.var 3), (.call E__law_mixed [(.call E__law_cell_at [(.var 0), (.cst (.int 5))]), (.cst (.int 1))])])) [.im (.scr ns), .im th, .im (.int 1), .im (.tup [.str a, .str b, .str c]), .im csd, .un, .un, .un, .im d8', .un, .un, .un, .un] = .ok (.nx, [.im (.scr ns), .im th, .im (.int 1), .im (.tup [.str a, .str b, .str c]), .im csd, .im wd, .un, .un, .im d8', .un, .un, .un, .un]) := by
    simp [e2, c5, hmx, e3]
  obtain ⟨d8a, t3⟩ := l2_step ns th csd wd a b c hwd (.im (.int 0)) d8'
  obtain ⟨d8b, t4⟩ := l2_step ns th csd wd a b c hwd (.im (.int 1)) d8a
  have s6 : evS 0 (.for (.nm 2) .rng1 [(.cst (.int 2))] lB2) [.im (.scr ns), .im th, .im (.int 1), .im (.tup [.str a, .str b, .str c]), .im csd, .im wd, .un, .un, .im d8', .un, .un, .un, .un] = .ok (.nx, [.im (.scr ns), .im th, .im (.int 1), .im (.tup [.str a, .str b, .str c]), .im csd, .im wd, .un, .un, .im d8b, .un, .un, .un, .un]) := by
    rw [evS_for]
    simp [hr, lockE, unlockE, t3, t4]
  obtain ⟨ρ7, f7, w7⟩ := for_inv (body := evSs 0 lB3) (tg := .nm 6) (fun _ ρ => ∃ e6 e9, ρ = [.im (.scr ns), .im th, .im (.int 1), .im (.tup [.str a, .str b, .str c]), .im csd, .im wd, e6, .un, .im d8b, e9, .un, .un, .un] ∧ isUI e6 = true ∧ isUI e9 = true) (abc.map fun x => D.str [x]) 0 [.im (.scr ns), .im th, .im (.int 1), .im (.tup [.str a, .str b, .str c]), .im csd, .im wd, .un, .un, .im d8b, .un, .un, .un, .un] ⟨_, _, rfl, rfl, rfl⟩ fun j ρ d hd hi => by
    obtain ⟨e6, e9, rfl, h6, h9⟩ := hi
    obtain ⟨x, _, rfl⟩ := List.mem_map.mp (List.mem_of_getElem? hd)
    obtain ⟨d9, u⟩ := l3_step ns th csd wd d8b a b c (.im (.int 1)) e9 x h9
    exact ⟨_, _, by rcases isUI_or h6 with rfl | ⟨_, rfl⟩ <;> rfl, u, _, _, rfl, rfl, rfl⟩
  obtain ⟨e6, e9, rfl, h6, h9⟩ := w7
  have s7 : evS 0 (.for (.nm 6) .seq [(.cst (.str abc))] lB3) [.im (.scr ns), .im th, .im (.int 1), .im (.tup [.str a, .str b, .str c]), .im csd, .im wd, .un, .un, .im d8b, .un, .un, .un, .un] = .ok (.nx, [.im (.scr ns), .im th, .im (.int 1), .im (.tup [.str a, .str b, .str c]), .im csd, .im wd, e6, .un, .im d8b, e9, .un, .un, .un]) := by
    rw [evS_for]
    simp only [pres_cons, pres_nil, pre_cst, ev_cst, Out.bind_ok, finL_cons, finL_nil, fin_cst, Option.bind_some, iterD, itemsD, lockE]
    rw [f7]
    rfl
  have m8 := mod_b v5 8 (by omega)
  have l1 : a.length + b.length ≤ szl := by unfold szl; omega
  have l2 : a.length + b.length + c.length ≤ szl := by unfold szl; omega
  have l3 : a.length + b.length + c.length + 2 ≤ szl := by unfold szl; omega
  obtain ⟨d, hd, hmem⟩ := ix_any [.str [], .str [65], .str [32], .non, .int 5, .bl true, .lst [.str [97]], .str (a ++ b ++ c ++ [97, 97])] (v5 % 8) m8.1 m8.2
  have hk : tyOk d = true ∧ ∀ x, d = .str [x] → isLet x = false := by
    simp at hmem
    rcases hmem with rfl | rfl | rfl | rfl | rfl | rfl | rfl | rfl
    · exact ⟨rfl, fun x h => by cases h⟩
    · exact ⟨rfl, fun x h => by cases h; rfl⟩
    · exact ⟨rfl, fun x h => by cases h; rfl⟩
    · exact ⟨rfl, fun x h => by cases h⟩
    · exact ⟨rfl, fun x h => by cases h⟩
    · exact ⟨rfl, fun x h => by cases h⟩
    · exact ⟨rfl, fun x h => by cases h⟩
    · refine ⟨rfl, fun x h => ?_⟩
      have h := congrArg (fun d => match d with | D.str s => s.length | _ => 0) h
      simp at h
      omega
  have ko := kind_of_eq a b c d hk.1
  rw [odd_kind a b c d la lb lc hk.2] at ko
  have s8 : evS 0 (.asg (.nm 7) (.idx (.lst [(.cst (.str [])), (.cst (.str [65])), (.cst (.str [32])), (.cst .non), (.cst (.int 5)), (.cst (.bl true)), (.lst [(.cst (.str [97]))]), (.bin .add (.bin .add (.bin .add (.idx (.var 3) (.cst (.int 0))) (.idx (.var 3) (.cst (.int 1)))) (.idx (.var 3) (.cst (.int 2)))) (.cst (.str [97, 97])))]) (.bin .mod (.call E__law_cell_at [(.var 0), (.cst (.int 5))]) (.cst (.int 8))))) [.im (.scr ns), .im th, .im (.int 1), .im (.tup [.str a, .str b, .str c]), .im csd, .im wd, e6, .un, .im d8b, e9, .un, .un, .un] = .ok (.nx, [.im (.scr ns), .im th, .im (.int 1), .im (.tup [.str a, .str b, .str c]), .im csd, .im wd, e6, .im d, .im d8b, e9, .un, .un, .un]) := by
    have l2' : a.length + (b.length + c.length) ≤ szl := by omega
    have l3' : a.length + (b.length + (c.length + 2)) ≤ szl := by omega
    have l3'' : a.length + (b.length + c.length) + 2 ≤ szl := by omega
    have hd' := hd
    simp only [List.append_assoc] at hd'
    simp [binD, addD, modD, idxD, l1, l2, l3, l2', l3', l3'', c5, hd']
  refine run_ret (ρ' := [.im (.scr ns), .im th, .im (.int 1), .im (.tup [.str a, .str b, .str c]), .im csd, .im wd, e6, .im d, .im d8b, e9, .un, .un, .un]) ?_ rfl
  rw [hr0, evSs_step s1, evSs_step s2, evSs_step s3, evSs_step s4, evSs_step s5, evSs_step s6, evSs_step s7, evSs_step s8]
  simp [evSs_cons, ko, cmpD, eqOk, eqD, D.dep, isiD, tyN, tyL, isiB]
end K1



open PySem PySem.W PyProof.Rows in
set_option maxRecDepth 100000 in
set_option maxHeartbeats 0 in
theorem PySem.Challenge.cw_nestwords_k01_signs_and_words_holds : PySem.Challenge.rw_nestwords_k01_signs_and_words.Holds := by
  w_on; o_law; k_head; (case hw => w_witness2)
  k_fill
  refine K1.walk (l := PySem.Challenge.rw_nestwords_k01_signs_and_words) rfl rfl (fun w h Y => PySem.W.kIn_of Y) ?F
  case F =>
    intro w mg fa h KX G hmg
    refine' K1.all_mk KX G hmg K1.law_eq ?a0 ?l0 ?d0 ?k0 ?a1 ?l1 ?d1 ?k1 ?a2 ?l2 ?d2 ?k2 ?a3 ?l3 ?d3 ?k3 ?a4 ?l4 ?d4 ?k4 ?a5 ?l5 ?d5 ?k5 ?a6 ?l6 ?d6 ?k6 ?a7 ?l7 ?d7 ?k7 ?a8 ?l8 ?d8 ?k8 ?a9 ?l9 ?d9 ?k9 ?a10 ?l10 ?d10 ?k10 ?a11 ?l11 ?d11 ?k11 ?a12 ?l12 ?d12 ?k12 ?a13 ?l13 ?d13 ?k13 ?a14 ?l14 ?d14 ?k14 ?a15 ?l15 ?d15 ?k15 ?a16 ?l16 ?d16 ?k16 ?a17 ?l17 ?d17 ?k17 ?q0 ?q1 ?z_len ?z_all ?z_any ?z_int ?z_tuple ?z_list ?z_isinstance ?z_range ?z_zip ?z_enumerate ?z_set ?z_str ?z_bool ?z_V ?z_M ?gs ?tk ?e0 ?eA0 ?eB0 ?eC0 ?eD0 ?eE0 ?eF0 ?eG0 ?eH0 ?eI0 ?eJ0 ?eK0 ?e1 ?eA1 ?eB1 ?eC1 ?eD1 ?eE1 ?eF1 ?eG1 ?eH1 ?eI1 ?eJ1 ?eK1 ?e2 ?eA2 ?eB2 ?eC2 ?eD2 ?eE2 ?eF2 ?eG2 ?eH2 ?eI2 ?eJ2 ?eK2 ?e3 ?eA3 ?eB3 ?eC3 ?eD3 ?eE3 ?eF3 ?eG3 ?eH3 ?eI3 ?eJ3 ?eK3 ?e4 ?eA4 ?eB4 ?eC4 ?eD4 ?eE4 ?eF4 ?eG4 ?eH4 ?eI4 ?eJ4 ?eK4 ?e5 ?eA5 ?eB5 ?eC5 ?eD5 ?eE5 ?eF5 ?eG5 ?eH5 ?eI5 ?eJ5 ?eK5 ?e6 ?eA6 ?eB6 ?eC6 ?eD6 ?eE6 ?eF6 ?eG6 ?eH6 ?eI6 ?eJ6 ?eK6 ?e7 ?eA7 ?eB7 ?eC7 ?eD7 ?eE7 ?eF7 ?eG7 ?eH7 ?eI7 ?eJ7 ?eK7 ?s00 ?s01 ?s02 ?s03 ?s04 ?s05 ?s06 ?n0 ?s10 ?s11 ?s12 ?s13 ?s14 ?s15 ?s16 ?n1 ?s20 ?s21 ?s22 ?s23 ?s24 ?s25 ?s26 ?n2 ?s30 ?s31 ?s32 ?s33 ?s34 ?s35 ?s36 ?n3 ?s40 ?s41 ?s42 ?s43 ?s44 ?s45 ?s46 ?n4 ?s50 ?s51 ?s52 ?s53 ?s54 ?s55 ?s56 ?n5 ?s60 ?s61 ?s62 ?s63 ?s64 ?s65 ?s66 ?n6
    (case a0 => k_is)
    (case l0 => k_is)
    (case d0 => k_is)
    (case k0 => k_is)
    (case a1 => k_is)
    (case l1 => k_is)
    (case d1 => k_is)
    (case k1 => k_is)
    (case a2 => k_is)
    (case l2 => k_is)
    (case d2 => k_is)
    (case k2 => k_is)
    (case a3 => k_is)
    (case l3 => k_is)
    (case d3 => k_is)
    (case k3 => k_is)
    (case a4 => k_is)
    (case l4 => k_is)
    (case d4 => k_is)
    (case k4 => k_is)
    (case a5 => k_is)
    (case l5 => k_is)
    (case d5 => k_is)
    (case k5 => k_is)
    (case a6 => k_is)
    (case l6 => k_is)
    (case d6 => k_is)
    (case k6 => k_is)
    (case a7 => k_is)
    (case l7 => k_is)
    (case d7 => k_is)
    (case k7 => k_is)
    (case a8 => k_is)
    (case l8 => k_is)
    (case d8 => k_is)
    (case k8 => k_is)
    (case a9 => k_is)
    (case l9 => k_is)
    (case d9 => k_is)
    (case k9 => k_is)
    (case a10 => k_is)
    (case l10 => k_is)
    (case d10 => k_is)
    (case k10 => k_is)
    (case a11 => k_is)
    (case l11 => k_is)
    (case d11 => k_is)
    (case k11 => k_is)
    (case a12 => k_is)
    (case l12 => k_is)
    (case d12 => k_is)
    (case k12 => k_is)
    (case a13 => k_is)
    (case l13 => k_is)
    (case d13 => k_is)
    (case k13 => k_is)
    (case a14 => k_is)
    (case l14 => k_is)
    (case d14 => k_is)
    (case k14 => k_is)
    (case a15 => k_is)
    (case l15 => k_is)
    (case d15 => k_is)
    (case k15 => k_is)
    (case a16 => k_is)
    (case l16 => k_is)
    (case d16 => k_is)
    (case k16 => k_is)
    (case a17 => k_is)
    (case l17 => k_is)
    (case d17 => k_is)
    (case k17 => k_is)
    (case q0 => k_is)
    (case q1 => k_is)
    (case z_len => k_is)
    (case z_all => k_is)
    (case z_any => k_is)
    (case z_int => k_is)
    (case z_tuple => k_is)
    (case z_list => k_is)
    (case z_isinstance => k_is)
    (case z_range => k_is)
    (case z_zip => k_is)
    (case z_enumerate => k_is)
    (case z_set => k_is)
    (case z_str => k_is)
    (case z_bool => k_is)
    (case z_V => k_is)
    (case z_M => k_is)
    (case gs => k_is)
    (case tk => k_is)
    (case e0 => k_is)
    (case eA0 => k_exc)
    (case eB0 => k_is)
    (case eC0 => k_is)
    (case eD0 => k_is)
    (case eE0 => k_is)
    (case eF0 => k_is)
    (case eG0 => k_is)
    (case eH0 => k_is)
    (case eI0 => k_is)
    (case eJ0 => k_is)
    (case eK0 => k_is)
    (case e1 => k_is)
    (case eA1 => k_exc)
    (case eB1 => k_is)
    (case eC1 => k_is)
    (case eD1 => k_is)
    (case eE1 => k_is)
    (case eF1 => k_is)
    (case eG1 => k_is)
    (case eH1 => k_is)
    (case eI1 => k_is)
    (case eJ1 => k_is)
    (case eK1 => k_is)
    (case e2 => k_is)
    (case eA2 => k_exc)
    (case eB2 => k_is)
    (case eC2 => k_is)
    (case eD2 => k_is)
    (case eE2 => k_is)
    (case eF2 => k_is)
    (case eG2 => k_is)
    (case eH2 => k_is)
    (case eI2 => k_is)
    (case eJ2 => k_is)
    (case eK2 => k_is)
    (case e3 => k_is)
    (case eA3 => k_exc)
    (case eB3 => k_is)
    (case eC3 => k_is)
    (case eD3 => k_is)
    (case eE3 => k_is)
    (case eF3 => k_is)
    (case eG3 => k_is)
    (case eH3 => k_is)
    (case eI3 => k_is)
    (case eJ3 => k_is)
    (case eK3 => k_is)
    (case e4 => k_is)
    (case eA4 => k_exc)
    (case eB4 => k_is)
    (case eC4 => k_is)
    (case eD4 => k_is)
    (case eE4 => k_is)
    (case eF4 => k_is)
    (case eG4 => k_is)
    (case eH4 => k_is)
    (case eI4 => k_is)
    (case eJ4 => k_is)
    (case eK4 => k_is)
    (case e5 => k_is)
    (case eA5 => k_exc)
    (case eB5 => k_is)
    (case eC5 => k_is)
    (case eD5 => k_is)
    (case eE5 => k_is)
    (case eF5 => k_is)
    (case eG5 => k_is)
    (case eH5 => k_is)
    (case eI5 => k_is)
    (case eJ5 => k_is)
    (case eK5 => k_is)
    (case e6 => k_is)
    (case eA6 => k_exc)
    (case eB6 => k_is)
    (case eC6 => k_is)
    (case eD6 => k_is)
    (case eE6 => k_is)
    (case eF6 => k_is)
    (case eG6 => k_is)
    (case eH6 => k_is)
    (case eI6 => k_is)
    (case eJ6 => k_is)
    (case eK6 => k_is)
    (case e7 => k_is)
    (case eA7 => k_exc)
    (case eB7 => k_is)
    (case eC7 => k_is)
    (case eD7 => k_is)
    (case eE7 => k_is)
    (case eF7 => k_is)
    (case eG7 => k_is)
    (case eH7 => k_is)
    (case eI7 => k_is)
    (case eJ7 => k_is)
    (case eK7 => k_is)
    (case s00 => k_is)
    (case s01 => k_is)
    (case s02 => k_is)
    (case s03 => k_is)
    (case s04 => k_is)
    (case s05 => k_is)
    (case s06 => k_is)
    (case n0 => k_is)
    (case s10 => k_is)
    (case s11 => k_is)
    (case s12 => k_is)
    (case s13 => k_is)
    (case s14 => k_is)
    (case s15 => k_is)
    (case s16 => k_is)
    (case n1 => k_is)
    (case s20 => k_is)
    (case s21 => k_is)
    (case s22 => k_is)
    (case s23 => k_is)
    (case s24 => k_is)
    (case s25 => k_is)
    (case s26 => k_is)
    (case n2 => k_is)
    (case s30 => k_is)
    (case s31 => k_is)
    (case s32 => k_is)
    (case s33 => k_is)
    (case s34 => k_is)
    (case s35 => k_is)
    (case s36 => k_is)
    (case n3 => k_is)
    (case s40 => k_is)
    (case s41 => k_is)
    (case s42 => k_is)
    (case s43 => k_is)
    (case s44 => k_is)
    (case s45 => k_is)
    (case s46 => k_is)
    (case n4 => k_is)
    (case s50 => k_is)
    (case s51 => k_is)
    (case s52 => k_is)
    (case s53 => k_is)
    (case s54 => k_is)
    (case s55 => k_is)
    (case s56 => k_is)
    (case n5 => k_is)
    (case s60 => k_is)
    (case s61 => k_is)
    (case s62 => k_is)
    (case s63 => k_is)
    (case s64 => k_is)
    (case s65 => k_is)
    (case s66 => k_is)
    (case n6 => k_is)


