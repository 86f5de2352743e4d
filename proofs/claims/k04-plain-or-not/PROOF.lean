import PyProof.Rows.All
import Wide.All
import OpenK.AllK
import Wide.FinOn
import HandS.ForMost
import HandS.Exc
import HandS.TryOnly
import HandS.ExcOwn
import HandS.HotCalls
import HandS.ExcCtx
import HandS.IsInst
import HandS.Deep
import HandS.TupAny
import HandS.Zip
import HandS.Style
import KE.KDictKeyed
import PyProof.ListStr
import PyProof.StrWalks
import HandS.Strs
import HandS.Codes
import KE.KRevSl
import HandS.ExcIs
import KE.LtData
import KE.SortData
import KE.KDictCopyH
import KE.KDictSum
import HandS.SortInts
import PySem.Challenge.RW_nestwords_k04_plain_or_not
set_option Elab.async false
set_option linter.all false
set_option maxRecDepth 100000
set_option maxHeartbeats 4000000
/-! NV.0: set(text). -/
namespace NV
open PySem PySem.Spec PyProof.Rows L2

/-- how many unlike ones there are -/
def metL {α : Type} [DecidableEq α] (acc : List α) (x : α) : List α := if x ∈ acc then acc else acc ++ [x]
def metN {α : Type} [DecidableEq α] (l : List α) : Nat := (l.foldl metL []).length

theorem metL_mem {α : Type} [DecidableEq α] (acc : List α) (x y : α) : y ∈ metL acc x ↔ y ∈ acc ∨ y = x := by
  unfold metL
  split
  · exact ⟨.inl, fun h => h.elim id fun e => e ▸ by assumption⟩
  · simp
theorem met_mem {α : Type} [DecidableEq α] : ∀ (l acc : List α) (y : α), y ∈ l.foldl metL acc ↔ y ∈ acc ∨ y ∈ l
  | [], acc, y => by simp
  | x :: l, acc, y => by
    rw [List.foldl_cons, met_mem l, metL_mem]
    simp [or_assoc]
theorem met_take {α : Type} [DecidableEq α] {l : List α} {i : Nat} {x : α} (h : l[i]? = some x) : (l.take (i + 1)).foldl metL [] = metL ((l.take i).foldl metL []) x := by
  rw [List.take_add_one, h, Option.toList_some, List.foldl_append]
  rfl
theorem met_le {α : Type} [DecidableEq α] : ∀ (l acc : List α), (l.foldl metL acc).length ≤ acc.length + l.length
  | [], acc => by simp
  | x :: l, acc => by
    rw [List.foldl_cons]
    have := met_le l (metL acc x)
    have h2 : (metL acc x).length ≤ acc.length + 1 := by
      unfold metL
      split <;> simp
    simp only [List.length_cons]
    omega
section
variable {prog : Program} {w : World} {A : Around} {R : Result → Shared → Prop} {I : Addr} {fp wr : List Addr} {G : Array GenState → Array GenState → Prop} {n : Nat} {P : Nat → Value → Prop} {St : Nat → Shared → Prop}
theorem loopMet (W : WalksS prog w A.in1 I fp wr G n P St) (S : Addr) (hSf : S ∉ fp) (xs : List Str) (hsz : xs.length = n) (hn1 : n + 1 < scanBound)
    (hval : ∀ i v, P i v → ∃ x t, xs[i]? = some x ∧ v = .str x t) :
    ∀ (k i : Nat) (s : Shared), n - i = k → i ≤ n → St i s →
      s.heap.SetOf (PySem.strKind prog w) S (fun k' => decide (k' ∈ (xs.take i).foldl metL [])) ((xs.take i).foldl metL []).length →
      (∀ s', Moved (S :: wr) G s s' → s'.heap.SetOf (PySem.strKind prog w) S (fun k' => decide (k' ∈ (xs.take n).foldl metL [])) ((xs.take n).foldl metL []).length → R (.ok (.ret .none)) s') →
      codeAny (model prog w) A (.builtin "set.update.loop" ⟨[.ref S, .ref I], []⟩) R s := by
  have hSw : S ∉ wr := fun h => hSf (W.sub _ h)
  have hsub : ∀ b ∈ wr, b ∈ S :: wr := fun b hb => List.mem_cons_of_mem _ hb
  intro k
  induction k with
  | zero =>
    intro i s hk hi hst hS hR
    have hin : i = n := by omega
    subst hin
    refine codeAny_builtin PyProof.Rows.F.entry_set_update_loop ?_
    rw [Around.under_plainId PyProof.Rows.F.plain_set_update_loop _]
    show wpAny _ A.in1 (pyNext (.ref I) >>= _) _ _ s
    refine wpAny_bind (W.done s _ _ hst fun s' hm => ?_)
    show wpAny _ A.in1 (ret Value.none) _ _ s'
    exact wpAny_pure (hR s' (hm.mono hsub) (by
      obtain ⟨o, es, ep, t, ho, rest⟩ := hS
      exact ⟨o, es, ep, t, hm.heap S _ hSw ho, rest⟩))
  | succ k ih =>
    intro i s hk hi hst hS hR
    have hlt : i < n := by omega
    refine codeAny_builtin PyProof.Rows.F.entry_set_update_loop ?_
    rw [Around.under_plainId PyProof.Rows.F.plain_set_update_loop _]
    show wpAny _ A.in1 (pyNext (.ref I) >>= _) _ _ s
    refine wpAny_bind (W.item i s _ _ hlt hst fun v s' hP hst' hm => ?_)
    obtain ⟨x, t, hx, rfl⟩ := hval i v hP
    have hS' : s'.heap.SetOf (PySem.strKind prog w) S (fun k' => decide (k' ∈ (xs.take i).foldl metL [])) ((xs.take i).foldl metL []).length := by
      obtain ⟨o, es, ep, tb, ho, rest⟩ := hS
      exact ⟨o, es, ep, tb, hm.heap S _ hSw ho, rest⟩
    show wpAny _ A.in1 (holding [Value.str x t] (setAdd S (.str x t)) >>= _) _ _ s'
    refine wpAny_bind (wpAny_holding ?_)
    unfold setAdd
    refine wpAny_holding ?_
    refine wpAny_bind ((PySem.strKind prog w).pyHash (k := x) (strKind_is _ _ _ _) ?_)
    have hroom : ((xs.take i).foldl metL []).length + 1 < scanBound := by
      have := met_le (xs.take i) []
      have h3 : (xs.take i).length ≤ i := by rw [List.length_take]; omega
      simp only [List.length_nil] at this
      omega
    refine wpAny_setAddHashed_of (knd := PySem.strKind prog w) (s := { s' with toks := s'.toks + 1 }) (strKind_is _ _ _ _) rfl hS' hroom fun h' hsb hS2 => ?_
    have hSi : h'.SetOf (PySem.strKind prog w) S (fun k' => decide (k' ∈ (xs.take (i + 1)).foldl metL [])) ((xs.take (i + 1)).foldl metL []).length := by
      rw [met_take hx]
      refine SetOf_congr hS2 (fun k' => ?_) ?_
      · rw [Bool.eq_iff_iff]
        simp [metL_mem]
      · generalize (xs.take i).foldl metL [] = L
        unfold metL
        by_cases hm : x ∈ L
        · simp [hm]
        · simp [hm]
    refine wpAny_pure ⟨plainId_quiet PyProof.Rows.F.plain_set_update_loop _, ih (i + 1) _ (by omega) hlt (W.frame _ s' _ _ hst' (Nat.le_succ _) fun b hb o e => ?_) hSi fun s'' hm'' hS'' => ?_⟩
    · rw [hsb.2 b (fun h : b = S => hSf (by rw [← h]; exact hb))]; exact e
    · refine hR s'' (Moved.trans W.gtrans ((hm.mono hsub).then_heap (Nat.le_succ _) fun b o hb e => ?_) hm'') hS''
      rw [hsb.2 b (fun h : b = S => hb (by rw [h]; exact List.mem_cons_self))]; exact e
end
section
variable {prog : Program} {w : World} {A : Around} {E : Value → Shared → Prop} {s : Shared}
set_option maxHeartbeats 3200000 in
theorem call_set_txt {x : Str} {t : Tok} {Q : Value → Shared → Prop}
    (hh : A.handled = none) (hn1 : x.cps.size + 1 < scanBound)
    (h : ∀ (h' : Heap) (tk : Nat), h'.SetOf (PySem.strKind prog w) s.heap.objs.size (fun k' => decide (k' ∈ (x.cps.toList.map fun c => (⟨#[c]⟩ : Str)).foldl metL [])) ((x.cps.toList.map fun c => (⟨#[c]⟩ : Str)).foldl metL []).length →
      (∀ b o, b < s.heap.objs.size → s.heap.get? b = some o → h'.get? b = some o) → Q (.ref s.heap.objs.size) { s with heap := h', toks := tk }) :
    wpAny (model prog w) A (call (.type "set") [.str x t]) Q E s := by
  obtain ⟨c, tl, hmro⟩ := PySem.F.called_set.mro
  have hmade := PySem.F.called_set.made
  have hsub := PySem.F.called_set.sub
  refine wpAny_call (codeAny_of_tree ?_)
  show wpAny _ _ (callAny (.type "set") _) _ _ _
  refine wpAny_pure ⟨Code.quiet_builtin _ (by decide +kernel), codeAny_builtin PySem.F.entry_type_call ?_⟩
  rw [Around.under_plain (weight_type_call_type "set" [.str x t] []) rfl]
  have h1 := PySem.F.called_set.notType
  have h2 := PySem.F.called_set.canCreate
  have hct := PySem.F.typeCall_set_1 (.str x t)
  repeat (any_goals (first | assumption | wp_step))
  refine codeAny_mono (code_set_new_1 (.str x t) (E := E) (Q₁ := fun obj s₁ => ∃ led : Bool, obj = .ref s.heap.objs.size ∧ s₁ = { s with heap := s.heap.push { cls := .type "set", dict := none, data := .set #[] 0 (.fresh 0 0 led) } }) fun led => ⟨led, rfl, rfl⟩) fun r s₁ hr => ?_
  cases r with
  | error e => exact hr
  | ok fl =>
    cases fl with
    | ret obj =>
      obtain ⟨led, rfl, rfl⟩ := hr
      have hS : (s.heap.push { cls := .type "set", dict := none, data := .set #[] 0 (.fresh 0 0 led) }).get? s.heap.objs.size = some { cls := .type "set", dict := none, data := .set #[] 0 (.fresh 0 0 led) } := Heap.get?_push_size _ rfl
      have hT : Shared.TypeIs { s with heap := s.heap.push { cls := .type "set", dict := none, data := .set #[] 0 (.fresh 0 0 led) } } (.ref s.heap.objs.size) "set" := ⟨_, hS, rfl⟩
      have hli := PySem.F.called_set.init.lookup
      have hbi := PySem.F.called_set.init.bind (.ref s.heap.objs.size)
      repeat (any_goals (first | assumption | wp_step))
      refine codeAny_mono (codeAny_call_builtin (R := wants (fun r s₂ => r = .none ∧ ∃ h' tk, s₂ = { s with heap := h', toks := tk } ∧
          h'.SetOf (PySem.strKind prog w) s.heap.objs.size (fun k' => decide (k' ∈ (x.cps.toList.map fun c => (⟨#[c]⟩ : Str)).foldl metL [])) ((x.cps.toList.map fun c => (⟨#[c]⟩ : Str)).foldl metL []).length ∧
          (∀ b o, b < s.heap.objs.size → s.heap.get? b = some o → h'.get? b = some o)) E) PySem.F.called_set.init.plain PySem.F.entry_set_init (check_set_init_1 hT ?_)) fun r₂ s₂ hr₂ => ?_
      · have hsls : isSubtype (.type "str") (.type "set") = pure false := by rw [isSubtype_type]; kernel_rfl
        have hslf : isSubtype (.type "str") (.type "frozenset") = pure false := by rw [isSubtype_type]; kernel_rfl
        unfold Builtin.«set.__init__» noKeywords Builtin.Frozenset.updateFrom
        generalize hPI : pyIter = PI
        wp_walk
        subst hPI
        refine wpAny_pyIter_str fun o St W st0 => ?_
        refine wpAny_bind (wpAny_runValue ?_)
        have hh3 : A.in1.in1.in1.handled = none := by simp [hh]
        have hSf : s.heap.objs.size ∉ [(s.heap.push { cls := .type "set", dict := none, data := .set #[] 0 (.fresh 0 0 led) }).objs.size] := by
          rw [Heap.size_push]; simp only [List.mem_singleton]
          exact Nat.ne_of_lt (Nat.lt_succ_self _)
        refine loopMet ((W _ hh3).toS) s.heap.objs.size hSf (x.cps.toList.map fun c => (⟨#[c]⟩ : Str)) (by simp) hn1 (fun i v hv => ?_) (x.cps.size - 0) 0 _ (by omega) (Nat.zero_le _) st0 ?hS0 ?hR
        · obtain ⟨c, u, h1, rfl⟩ := hv
          refine ⟨⟨#[c]⟩, u, ?_, rfl⟩
          rw [List.getElem?_map, Array.getElem?_toList, h1]
          rfl
        case hS0 =>
          have hget : ((s.heap.push { cls := .type "set", dict := none, data := .set #[] 0 (.fresh 0 0 led) }).push o).get? s.heap.objs.size
              = some { cls := .type "set", dict := none, data := .set #[] 0 (.fresh 0 0 led) } := Heap.get?_push_of_some _ hS
          exact PyProof.Rows.SetOf_congr ((PyProof.Rows.setObjOf_fresh (knd := PySem.strKind prog w) led).setOf hget (by unfold scanBound; omega)) (fun _ => by simp) rfl
        case hR =>
          intro s' hm hS'
          rw [List.take_of_length_le (by simp)] at hS'
          obtain ⟨h', g', d', tk', os'⟩ := s'
          have eg : g' = s.gens := hm.gens
          have ed : d' = s.drawn := hm.drawn
          have eo : os' = s.os := hm.os
          subst eg; subst ed; subst eo
          show wpAny _ _ _ _ _ _
          refine wpAny_pure ?_
          show wpAny _ _ (ret Value.none) _ _ _
          refine wpAny_pure ⟨rfl, h', tk', rfl, hS', fun b o hb e => ?_⟩
          have hb1 : b ≠ s.heap.objs.size := Nat.ne_of_lt hb
          have hb2 : b ≠ (s.heap.push { cls := .type "set", dict := none, data := .set #[] 0 (.fresh 0 0 led) }).objs.size := by
            rw [Heap.size_push]; exact Nat.ne_of_lt (Nat.lt_succ_of_lt hb)
          exact hm.heap b o (by simp only [List.mem_cons, List.mem_singleton, List.not_mem_nil, or_false, not_or]; exact ⟨hb1, hb2⟩) (Heap.get?_push_of_some _ (Heap.get?_push_of_some _ e))
      · cases r₂ with
        | error e => exact hr₂
        | ok fl₂ =>
          cases fl₂ with
          | ret r =>
            obtain ⟨rfl, h', tk, rfl, hS', hk'⟩ := hr₂
            repeat (any_goals (first | assumption | wp_step))
            exact h _ _ hS' hk'
          | _ => exact hr₂.elim
    | _ => exact hr.elim
end
end NV

/-! NV.A: pure values, a pure small language, and its evaluator. -/
namespace NV
open PySem PySem.Spec PyProof.Rows L2

/-- pure data; scr: the law's script -/
inductive D where
  | non | bl (b : Bool) | int (i : Int) | str (s : List Nat)
  | tup (l : List D) | lst (l : List D) | dic (ks vs : List D) | obj (c : String) (l : List D) | scr (l : List Int) | adr (a : Nat)
mutual
def D.beq : D → D → Bool
  | .non, b => match b with | .non => true | _ => false
  | .bl a, b => match b with | .bl b => a == b | _ => false
  | .int a, b => match b with | .int b => a == b | _ => false
  | .str a, b => match b with | .str b => a == b | _ => false
  | .tup a, b => match b with | .tup b => D.beqL a b | _ => false
  | .lst a, b => match b with | .lst b => D.beqL a b | _ => false
  | .dic a a', b => match b with | .dic b b' => D.beqL a b && D.beqL a' b' | _ => false
  | .obj c a, b => match b with | .obj d b => c == d && D.beqL a b | _ => false
  | .scr a, b => match b with | .scr b => a == b | _ => false
  | .adr a, b => match b with | .adr b => a == b | _ => false
termination_by structural a => a
def D.beqL : List D → List D → Bool
  | [], b => match b with | [] => true | _ => false
  | x :: a, b => match b with | y :: b => D.beq x y && D.beqL a b | _ => false
termination_by structural a => a
end
mutual
theorem D.beq_eq : ∀ a b : D, D.beq a b = true ↔ a = b
  | .non, b => by cases b <;> simp [D.beq]
  | .bl a, b => by cases b <;> simp [D.beq]
  | .int a, b => by cases b <;> simp [D.beq]
  | .str a, b => by cases b <;> simp [D.beq]
  | .tup a, b => by cases b <;> simp [D.beq, D.beqL_eq a]
  | .lst a, b => by cases b <;> simp [D.beq, D.beqL_eq a]
  | .dic a a', b => by cases b <;> simp [D.beq, D.beqL_eq a, D.beqL_eq a']
  | .obj c a, b => by cases b <;> simp [D.beq, D.beqL_eq a]
  | .scr a, b => by cases b <;> simp [D.beq]
  | .adr a, b => by cases b <;> simp [D.beq]
termination_by structural a => a
theorem D.beqL_eq : ∀ a b : List D, D.beqL a b = true ↔ a = b
  | [], b => by cases b <;> simp [D.beqL]
  | x :: a, b => by cases b <;> simp [D.beqL, D.beq_eq x, D.beqL_eq a]
termination_by structural a => a
end
instance : DecidableEq D := fun a b => decidable_of_iff _ (D.beq_eq a b)

/-- the fields of a class in the order in which they are made -/
def flds (c : String) : List Str :=
  if c = "Machine" then ["alphabet", "size", "begun", "over", "rows"] else []
/-- an outcome -/
inductive Out (ε α : Type) where
  | stuck | ok (a : α) | exc (c : String) (e : ε)
namespace Out
variable {ε α β : Type}
def bind (o : Out ε α) (f : α → Out ε β) : Out ε β := match o with
  | .stuck => .stuck
  | .ok a => f a
  | .exc c e => .exc c e
@[simp] theorem bind_ok (a : α) (f : α → Out ε β) : (Out.ok a).bind f = f a := rfl
@[simp] theorem bind_stuck (f : α → Out ε β) : (Out.stuck : Out ε α).bind f = .stuck := rfl
@[simp] theorem bind_exc (c : String) (e : ε) (f : α → Out ε β) : (Out.exc c e : Out ε α).bind f = .exc c e := rfl
end Out

/-- what a name holds: nothing; a value that stays; an own container; a parameter's container that is changed in place; one that is only read; a hidden one -/
inductive Ent where
  | un | im (d : D) | ow (d : D) | io (d : D) | br (d : D) | hid
abbrev Rho := List Ent
abbrev Res := Out Rho (D × Rho)
def opt (o : Option D) (ρ : Rho) : Res := match o with
  | none => .stuck
  | some d => .ok (d, ρ)
@[simp] theorem opt_some (d : D) (ρ : Rho) : opt (some d) ρ = .ok (d, ρ) := rfl
@[simp] theorem opt_none (ρ : Rho) : opt none ρ = .stuck := rfl

/-- how a parameter is taken -/
inductive PK where
  | im | io | br
  deriving DecidableEq
/-- a def as a function of data: the data behind its io parameters come back beside the answer -/
structure FnE where
  ks : List PK
  fresh : Bool
  F : List D → Out Unit (D × List D)

inductive Op where | add | sub | mul | div | mod
  deriving DecidableEq
inductive Cm where | eq | ne | lt | le | gt | ge | isin | notin | isn | notn
  deriving DecidableEq
inductive Tg where | nm (i : Nat) | tp (l : List Nat)
  deriving DecidableEq
inductive IK where | seq | rng1 | rng2 | zip | enum
  deriving DecidableEq
inductive B1 where | len | all | any | list | tuple | int | str | max | min | sorted | lenset | sortedset
  deriving DecidableEq

inductive ME where
  | var (i : Nat)
  | cst (d : D)
  | bin (o : Op) (a b : ME)
  | neg (a : ME)
  | cmp (o : Cm) (a b : ME)
  | chn (o o' : Cm) (a b c : ME)
  | and (l : List ME) | or (l : List ME) | not (a : ME)
  | ife (c a b : ME)
  | tup (l : List ME) | lst (l : List ME) | emp
  | comp (elt : ME) (tg : Tg) (k : IK) (args : List ME) (ifs : List ME) (own : List Nat)
  | call (f : FnE) (args : List ME)
  | isi (a : ME) (t : String)
  | b1 (b : B1) (a : ME)
  | idx (a i : ME)
  | sl (a : ME) (lo hi : List ME)
  | rev (a : ME)
  | fld (c : String) (k : Nat) (a : ME)
  | join (s a : ME)
  | dsel (ks : List (List Nat)) (vs : List Int) (a : ME)
  | dgetc (ks : List (List Nat)) (vs : List Int) (a : ME) (x : Int)
  | get (d k x : ME)
  | isx (a : ME) (t : Nat → Option Bool)
  | cnt (a x : ME)
  | make (c : String) (f : FnE) (args : List ME)
  | meth (c : String) (f : FnE) (a : ME)
  | pu (fr : Bool) (f : List D → Option D) (args : List ME)
  | pop (i : Nat)

/-! ### operations on data -/
def szl : Nat := 16777216
def lenD : D → Option Nat
  | .str s => some s.length
  | .lst l => some l.length
  | .tup l => some l.length
  | .scr l => some l.length
  | .dic ks _ => some ks.length
  | _ => none
def addD : D → D → Option D
  | .int a, .int b => some (.int (a + b))
  | .str a, .str b => if a.length + b.length ≤ szl then some (.str (a ++ b)) else none
  | .lst a, .lst b => if a.length + b.length ≤ szl then some (.lst (a ++ b)) else none
  | .tup a, .tup b => if a.length + b.length ≤ szl then some (.tup (a ++ b)) else none
  | _, _ => none
def subD : D → D → Option D
  | .int a, .int b => some (.int (a - b))
  | _, _ => none
def mulD : D → D → Option D
  | .int a, .int b => if (a.natAbs < 2 ^ 64 ∨ b.natAbs < 2 ^ 64) then some (.int (a * b)) else none
  | _, _ => none
def divD : D → D → Option D
  | .int a, .int b => if 0 < b ∧ b < 1073741824 then some (.int (a / b)) else none
  | _, _ => none
def modD : D → D → Option D
  | .int a, .int b => if 0 < b then some (.int (a % b)) else none
  | _, _ => none
def binD : Op → D → D → Option D
  | .add => addD | .sub => subD | .mul => mulD | .div => divD | .mod => modD
def negD : D → Option D
  | .int a => some (.int (-a))
  | _ => none
mutual
def D.dep : D → Nat
  | .non => 0 | .bl _ => 0 | .int _ => 0 | .str _ => 0
  | .tup l => D.depL l + 1
  | .lst l => D.depL l + 1
  | .dic _ _ => 1000 | .obj _ _ => 1000 | .scr _ => 1000 | .adr _ => 1000
def D.depL : List D → Nat
  | [] => 0
  | x :: l => max (D.dep x) (D.depL l)
end
mutual
def eqD : D → D → Bool
  | .non, b => match b with | .non => true | _ => false
  | .bl a, b => match b with | .bl b => a == b | .int j => (if a then 1 else 0) == j | _ => false
  | .int a, b => match b with | .int b => a == b | .bl b => a == (if b then 1 else 0) | _ => false
  | .str a, b => match b with | .str b => a == b | _ => false
  | .tup a, b => match b with | .tup b => eqL a b | _ => false
  | .lst a, b => match b with | .lst b => eqL a b | _ => false
  | .dic _ _, _ => false
  | .obj _ _, _ => false
  | .scr _, _ => false
  | .adr _, _ => false
termination_by structural a => a
def eqL : List D → List D → Bool
  | [], b => match b with | [] => true | _ => false
  | x :: a, b => match b with | y :: b => eqD x y && eqL a b | _ => false
termination_by structural a => a
end
def eqOk (a b : D) : Bool := decide (a.dep ≤ 64) && decide (b.dep ≤ 64)
/-- a dict's key -/
def keyAt (k : D) : List D → List D → Option D
  | x :: ks, v :: vs => if x = k then some v else keyAt k ks vs
  | _, _ => none
def putAt (k v : D) : List D → List D → List D × List D
  | x :: ks, y :: vs => if x = k then (x :: ks, v :: vs) else let r := putAt k v ks vs; (x :: r.1, y :: r.2)
  | _, _ => ([k], [v])
mutual
def D.isKey : D → Bool
  | .int _ => true | .str _ => true | .non => true
  | .tup l => D.isKeyL l
  | _ => false
def D.isKeyL : List D → Bool
  | [] => true
  | x :: l => D.isKey x && D.isKeyL l
end
/-- a dict's key: a tuple of such -/
def D.tkey : D → Bool
  | .tup l => D.isKeyL l && decide (D.depL l ≤ 6)
  | _ => false
def inD (x : D) : D → Option Bool
  | .str b => match x with | .str [c] => some (b.contains c) | _ => none
  | .lst l => if x.dep ≤ 60 ∧ D.depL l ≤ 60 then some (l.any fun y => eqD y x) else none
  | .tup l => if x.dep = 0 ∧ D.depL l = 0 then some (l.any fun y => eqD y x) else none
  | .dic ks vs => if x.tkey then some (keyAt x ks vs).isSome else none
  | _ => none
def cmpD : Cm → D → D → Option D
  | .eq, a, b => if eqOk a b then some (.bl (eqD a b)) else none
  | .ne, a, b => if eqOk a b then some (.bl (!eqD a b)) else none
  | .lt, .int a, .int b => some (.bl (decide (a < b)))
  | .le, .int a, .int b => some (.bl (decide (a ≤ b)))
  | .gt, .int a, .int b => some (.bl (decide (b < a)))
  | .ge, .int a, .int b => some (.bl (decide (b ≤ a)))
  | .isin, a, b => (inD a b).map .bl
  | .notin, a, b => (inD a b).map fun r => .bl (!r)
  | .isn, a, .non => some (.bl (match a with | .non => true | _ => false))
  | .notn, a, .non => some (.bl (match a with | .non => false | _ => true))
  | _, _, _ => none
def ixD {α : Type} (l : List α) (i : Int) : Option α := if 0 ≤ i then l[i.toNat]? else if -(l.length : Int) ≤ i then l[(i + l.length).toNat]? else none
def idxD : D → D → Option D
  | .lst l, .int i => ixD l i
  | .tup l, .int i => ixD l i
  | .scr l, .int i => (ixD l i).map .int
  | .str l, .int i => (ixD l i).map fun c => .str [c]
  | .dic ks vs, k => if k.tkey then keyAt k ks vs else none
  | _, _ => none
def cutD {α : Type} (l : List α) (lo hi : Option Int) : List α := (l.drop (HT.sIx l.length 0 lo)).take (HT.sIx l.length l.length hi - HT.sIx l.length 0 lo)
def slD (a : D) (lo hi : Option Int) : Option D := match a with
  | .lst l => some (.lst (cutD l lo hi))
  | .tup l => some (.tup (cutD l lo hi))
  | .str l => some (.str (cutD l lo hi))
  | .scr l => some (.lst ((cutD l lo hi).map .int))
  | _ => none
def allBl : List D → Option (List Bool)
  | [] => some []
  | .bl b :: l => (allBl l).map (b :: ·)
  | _ => none
def allInt : List D → Option (List Int)
  | [] => some []
  | .int b :: l => (allInt l).map (b :: ·)
  | _ => none
def allStr : List D → Option (List (List Nat))
  | [] => some []
  | .str b :: l => (allStr l).map (b :: ·)
  | _ => none
/-- what it iterates over -/
def itemsD : D → Option (List D)
  | .lst l => some l
  | .tup l => some l
  | .scr l => some (l.map .int)
  | .str l => some (l.map fun c => .str [c])
  | _ => none
def tyN : D → Option String
  | .non => some "NoneType" | .bl _ => some "bool" | .int _ => some "int" | .str _ => some "str" | .tup _ => some "tuple" | .lst _ => some "list" | .scr _ => some "list" | .dic _ _ => some "dict"
  | .obj _ _ => none | .adr _ => none
def tyL : List String := ["str", "int", "bool", "tuple", "list"]
def isiB (n t : String) : Bool := n = t || (n = "bool" && t = "int")
def isiD (a : D) (t : String) : Option Bool := match a with
  | .obj c _ => if c = "Machine" then (if t = "Machine" then some true else if t ∈ tyL then some false else none) else none
  | a => match tyN a with
    | some n => if t = "Machine" then some false else if t ∈ tyL then some (isiB n t) else none
    | none => none
def enumD (n : Nat) : List D → List D
  | [] => []
  | x :: l => .tup [.int n, x] :: enumD (n + 1) l
def zipD : List D → List D → List D
  | x :: a, y :: b => .tup [x, y] :: zipD a b
  | _, _ => []
def rngD (a : Int) (n : Nat) : List D := (List.range n).map fun k : Nat => .int (a + k)
def joinL (s : List Nat) : List (List Nat) → List Nat
  | [] => []
  | [x] => x
  | x :: l => x ++ s ++ joinL s l
def b1D : B1 → D → Option D
  | .len, a => (lenD a).map fun n => .int n
  | .all, .lst l => (allBl l).map fun bs => .bl (bs.all id)
  | .any, .lst l => (allBl l).map fun bs => .bl (bs.any id)
  | .list, .lst l => some (.lst l)
  | .list, .tup l => some (.lst l)
  | .list, .scr l => some (.lst (l.map .int))
  | .list, .str l => some (.lst (l.map fun c => .str [c]))
  | .tuple, .lst l => some (.tup l)
  | .tuple, .tup l => some (.tup l)
  | .int, .int i => some (.int i)
  | .int, .bl b => some (.int (if b then 1 else 0))
  | .lenset, .str l => if l.length ≤ 4000 then some (.int (metN l)) else none
  | .lenset, .lst l => match allInt l with
    | some is => if is.length ≤ 4000 then some (.int (metN is)) else none
    | none => none
  | _, _ => none

/-! ### the evaluator -/
/-- a name may be set anew unless it is pinned -/
def setE (ρ : Rho) (i : Nat) (e : Ent) : Option Rho := match ρ[i]? with
  | some .un => some (ρ.set i e)
  | some (.im _) => some (ρ.set i e)
  | some (.ow _) => some (ρ.set i e)
  | _ => none
def setTs : List Nat → List D → Rho → Option Rho
  | [], [], ρ => some ρ
  | i :: is, d :: ds, ρ => match setE ρ i (.im d) with
    | some ρ' => setTs is ds ρ'
    | none => none
  | _, _, _ => none
def setT : Tg → D → Rho → Option Rho
  | .nm i, d, ρ => setE ρ i (.im d)
  | .tp l, d, ρ => match d with
    | .tup ds => setTs l ds ρ
    | _ => none
/-- the value of a name; an own container that is wanted as a value is a value for good -/
def evVar (ρ : Rho) (i : Nat) : Res := match ρ[i]? with
  | some (.im d) => .ok (d, ρ)
  | some (.ow d) => .ok (d, ρ.set i (.im d))
  | _ => .stuck
/-- the data of a name, read for the moment -/
def peek (ρ : Rho) (i : Nat) : Option D := match ρ[i]? with
  | some (.im d) => some d
  | some (.ow d) => some d
  | some (.io d) => some d
  | some (.br d) => some d
  | _ => none
def isTrueD : D → Option Bool
  | .bl b => some b
  | _ => none
abbrev Ev := Rho → Res
/-- an operand: a name is looked at when all operands have come -/
def pre (m : ME) (e : Ev) (ρ : Rho) : Out Rho (Option D × Rho) := match m with
  | .var i => match peek ρ i with
    | some _ => .ok (none, ρ)
    | none => .stuck
  | _ => (e ρ).bind fun r => .ok (some r.1, r.2)
def fin (m : ME) (o : Option D) (ρ : Rho) : Option D := match m with
  | .var i => peek ρ i
  | _ => o
def finL : List ME → List (Option D) → Rho → Option (List D)
  | [], [], _ => some []
  | m :: ms, o :: os, ρ => match fin m o ρ, finL ms os ρ with
    | some d, some ds => some (d :: ds)
    | _, _ => none
  | _, _, _ => none
/-- names that are walked over are not written to meanwhile -/
def lockE : List ME → Rho → Rho
  | [], ρ => ρ
  | .var i :: ms, ρ => match ρ[i]? with
    | some (.ow d) => lockE ms (ρ.set i (.br d))
    | some (.io d) => lockE ms (ρ.set i (.br d))
    | _ => lockE ms ρ
  | _ :: ms, ρ => lockE ms ρ
def unlockE (ρ0 : Rho) : List ME → Rho → Rho
  | [], ρ => ρ
  | .var i :: ms, ρ => match ρ0[i]? with
    | some (.ow d) => unlockE ρ0 ms (ρ.set i (.ow d))
    | some (.io d) => unlockE ρ0 ms (ρ.set i (.io d))
    | _ => unlockE ρ0 ms ρ
  | _ :: ms, ρ => unlockE ρ0 ms ρ
/-- a comprehension's names forgotten, and put back -/
def wipeE : List Nat → Rho → Option Rho
  | [], ρ => some ρ
  | v :: vs, ρ => match ρ[v]? with
    | some .un => wipeE vs (ρ.set v .un)
    | some (.im _) => wipeE vs (ρ.set v .un)
    | _ => none
def backE (ρ0 : Rho) : List Nat → Rho → Rho
  | [], ρ => ρ
  | v :: vs, ρ => backE ρ0 vs (ρ.set v (ρ0[v]?.getD .un))
def wiped {α : Type} (own : List Nat) (a : α) (ρ : Rho) : Out Rho (α × Rho) := match wipeE own ρ with
  | some ρ' => .ok (a, ρ')
  | none => .stuck
def compStep (elt : Ev) (ifs : Rho → Out Rho (Bool × Rho)) (tg : Tg) (own : List Nat) (d : D) (ρ : Rho) : Out Rho (List D × Rho) :=
  match setT tg d ρ with
  | none => .stuck
  | some ρ1 => (ifs ρ1).bind fun r => if r.1 then (elt r.2).bind fun x => wiped own [x.1] x.2 else wiped own [] r.2
def compLoop (elt : Ev) (ifs : Rho → Out Rho (Bool × Rho)) (tg : Tg) (own : List Nat) : List D → Rho → Out Rho (List D × Rho)
  | [], ρ => .ok ([], ρ)
  | d :: ds, ρ => (compStep elt ifs tg own d ρ).bind fun r => (compLoop elt ifs tg own ds r.2).bind fun q => .ok (r.1 ++ q.1, q.2)
def noexc {α : Type} (o : Out Rho α) : Out Rho α := match o with
  | .ok a => .ok a
  | _ => .stuck
def iterD (k : IK) (ds : List D) : Option (List D) := match k, ds with
  | .seq, [d] => itemsD d
  | .rng1, [.int n] => if n.natAbs ≤ 16777216 then some (rngD 0 n.toNat) else none
  | .rng2, [.int a, .int b] => if a.natAbs ≤ 16777216 ∧ b.natAbs ≤ 8000000 ∧ b - a ≤ 16777216 then some (rngD a (b - a).toNat) else none
  | .zip, [.lst a, .lst b] => some (zipD a b)
  | .zip, [.tup a, .tup b] => some (zipD a b)
  | .enum, [.lst l] => some (enumD 0 l)
  | _, _ => none
/-- the arguments of a call: values; containers that are changed or read in place -/
def evArg (p : PK) (m : ME) (e : Ev) (ρ : Rho) : Out Rho (Option D × Rho) := match p with
  | .im => (e ρ).bind fun r => .ok (some r.1, r.2)
  | _ => match m with
    | .var i => match peek ρ i with
      | some _ => .ok (none, ρ)
      | none => .stuck
    | _ => .stuck
def finArg (p : PK) (m : ME) (o : Option D) (ρ : Rho) : Option D := match p, m with
  | .im, _ => o
  | .io, .var i => match ρ[i]? with
    | some (.ow d) => some d
    | some (.io d) => some d
    | _ => none
  | .br, .var i => match ρ[i]? with
    | some (.ow d) => some d
    | some (.io d) => some d
    | some (.br d) => some d
    | _ => none
  | _, _ => none
def finArgs : List PK → List ME → List (Option D) → Rho → Option (List D)
  | [], [], [], _ => some []
  | p :: ps, m :: ms, o :: os, ρ => match finArg p m o ρ, finArgs ps ms os ρ with
    | some d, some ds => some (d :: ds)
    | _, _ => none
  | _, _, _, _ => none
/-- no name is handed in twice to be held -/
def refIn (i : Nat) : List PK → List ME → Bool
  | .im :: ps, _ :: ms => refIn i ps ms
  | _ :: ps, .var j :: ms => decide (i = j) || refIn i ps ms
  | _, _ => false
def refNd : List PK → List ME → Bool
  | .im :: ps, _ :: ms => refNd ps ms
  | _ :: ps, .var j :: ms => !refIn j ps ms && refNd ps ms
  | _, _ => true
/-- the io arguments' names hold what came back -/
def outArgs : List PK → List ME → List D → Rho → Option Rho
  | [], [], [], ρ => some ρ
  | .io :: ps, .var i :: ms, d :: ds, ρ => match ρ[i]? with
    | some (.ow _) => outArgs ps ms ds (ρ.set i (.ow d))
    | some (.io _) => outArgs ps ms ds (ρ.set i (.io d))
    | _ => none
  | .im :: ps, _ :: ms, ds, ρ => outArgs ps ms ds ρ
  | .br :: ps, _ :: ms, ds, ρ => outArgs ps ms ds ρ
  | _, _, _, _ => none
mutual
def ev : ME → Rho → Res
  | .var i, ρ => evVar ρ i
  | .cst d, ρ => .ok (d, ρ)
  | .bin o a b, ρ => (pre a (ev a) ρ).bind fun x => (pre b (ev b) x.2).bind fun y => match fin a x.1 y.2, fin b y.1 y.2 with
    | some p, some q => opt (binD o p q) y.2
    | _, _ => .stuck
  | .neg a, ρ => (ev a ρ).bind fun x => opt (negD x.1) x.2
  | .cmp o a b, ρ => (pre a (ev a) ρ).bind fun x => (pre b (ev b) x.2).bind fun y => match fin a x.1 y.2, fin b y.1 y.2 with
    | some p, some q => opt (cmpD o p q) y.2
    | _, _ => .stuck
  | .chn o o' a b c, ρ => (ev a ρ).bind fun x => (ev b x.2).bind fun y => match cmpD o x.1 y.1 with
    | some (.bl true) => (ev c y.2).bind fun z => opt (cmpD o' y.1 z.1) z.2
    | some (.bl false) => .ok (.bl false, y.2)
    | _ => .stuck
  | .and l, ρ => evAnd l ρ
  | .or l, ρ => evOr l ρ
  | .not a, ρ => (ev a ρ).bind fun x => match x.1 with
    | .bl b => .ok (.bl (!b), x.2)
    | _ => .stuck
  | .ife c a b, ρ => (ev c ρ).bind fun x => match x.1 with
    | .bl true => ev a x.2
    | .bl false => ev b x.2
    | _ => .stuck
  | .tup l, ρ => (evs l ρ).bind fun x => .ok (.tup x.1, x.2)
  | .lst l, ρ => (evs l ρ).bind fun x => .ok (.lst x.1, x.2)
  | .emp, ρ => .ok (.dic [] [], ρ)
  | .comp elt tg k args ifs own, ρ => (pres args ρ).bind fun x => match (finL args x.1 x.2).bind (iterD k) with
    | none => .stuck
    | some items => match if items.length ≤ szl then wipeE own (lockE args x.2) else none with
      | none => .stuck
      | some ρ2 => (noexc (compLoop (ev elt) (evIfs ifs) tg own items ρ2)).bind fun y => .ok (.lst y.1, unlockE x.2 args (backE x.2 own y.2))
  | .call f args, ρ => (evArgs f.ks args ρ).bind fun x => match if refNd f.ks args then finArgs f.ks args x.1 x.2 else none with
    | none => .stuck
    | some ds => match f.F ds with
      | .stuck => .stuck
      | .exc c _ => if f.ks.contains .io then .stuck else .exc c x.2
      | .ok (d, outs) => match outArgs f.ks args outs x.2 with
        | none => .stuck
        | some ρ' => .ok (d, ρ')
  | .isi a t, ρ => (pre a (ev a) ρ).bind fun x => match fin a x.1 x.2 with
    | some d => opt ((isiD d t).map .bl) x.2
    | none => .stuck
  | .b1 b a, ρ => (pre a (ev a) ρ).bind fun x => match fin a x.1 x.2 with
    | some d => opt (b1D b d) x.2
    | none => .stuck
  | .idx a i, ρ => (pre a (ev a) ρ).bind fun x => (pre i (ev i) x.2).bind fun y => match fin a x.1 y.2, fin i y.1 y.2 with
    | some p, some q => opt (idxD p q) y.2
    | _, _ => .stuck
  | .sl a lo hi, ρ => (pre a (ev a) ρ).bind fun x => (evPart lo x.2).bind fun y => (evPart hi y.2).bind fun z => match fin a x.1 z.2 with
    | some p => opt (slD p y.1 z.1) z.2
    | none => .stuck
  | .rev a, ρ => (pre a (ev a) ρ).bind fun x => match fin a x.1 x.2 with
    | some (.lst l) => .ok (.lst l.reverse, x.2)
    | some (.str l) => .ok (.str l.reverse, x.2)
    | _ => .stuck
  | .fld c k a, ρ => (pre a (ev a) ρ).bind fun x => match fin a x.1 x.2 with
    | some (.obj c' l) => if c = c' then opt l[k]? x.2 else .stuck
    | _ => .stuck
  | .join s a, ρ => (ev s ρ).bind fun x => match x.1 with
    | .str s => (pre a (ev a) x.2).bind fun y => match fin a y.1 y.2 with
      | some (.lst l) => match allStr l with
        | some ls => if (ls.map List.length).sum + ls.length * s.length ≤ 16777216 then .ok (.str (joinL s ls), y.2) else .stuck
        | none => .stuck
      | _ => .stuck
    | _ => .stuck
  | .dsel ks vs a, ρ => (ev a ρ).bind fun x => match x.1 with
    | .str s => match (ks.zip vs).find? fun p => decide (p.1 = s) with
      | some p => .ok (.int p.2, x.2)
      | none => .stuck
    | _ => .stuck
  | .dgetc ks vs a d, ρ => (ev a ρ).bind fun x => match x.1 with
    | .str s => match (ks.zip vs).find? fun p => decide (p.1 = s) with
      | some p => .ok (.int p.2, x.2)
      | none => .ok (.int d, x.2)
    | _ => .stuck
  | .get a k d, ρ => (pre a (ev a) ρ).bind fun x => match fin a x.1 x.2 with
    | some (.dic _ _) => (ev k x.2).bind fun y => (ev d y.2).bind fun z => match fin a x.1 z.2 with
      | some (.dic ks vs) => if y.1.tkey then .ok ((keyAt y.1 ks vs).getD z.1, z.2) else .stuck
      | _ => .stuck
    | _ => .stuck
  | .isx a t, ρ => (ev a ρ).bind fun x => match x.1 with
    | .adr i => match t i with
      | some b => .ok (.bl b, x.2)
      | none => .stuck
    | _ => .stuck
  | .cnt a x, ρ => (pre a (ev a) ρ).bind fun y => match fin a y.1 y.2 with
    | some (.lst _) => (pre x (ev x) y.2).bind fun z => match fin a y.1 z.2, fin x z.1 z.2 with
      | some (.lst l), some d => if d.dep ≤ 60 ∧ D.depL l ≤ 60 then .ok (.int (l.countP fun u => eqD u d : Nat), z.2) else .stuck
      | _, _ => .stuck
    | _ => .stuck
  | .make c f args, ρ => (evs args ρ).bind fun x => match f.F (.obj c [] :: x.1) with
    | .stuck => .stuck
    | .exc n _ => .exc n x.2
    | .ok (d0, outs) => match d0, outs with
      | .non, [.obj c' l] => if c' = c then .ok (.obj c l, x.2) else .stuck
      | _, _ => .stuck
  | .meth c f a, ρ => (ev a ρ).bind fun x => match x.1 with
    | .obj c' l => if c = c' then match f.F [.obj c l] with
      | .ok (d, _) => .ok (d, x.2)
      | .exc n _ => .exc n x.2
      | .stuck => .stuck
      else .stuck
    | _ => .stuck
  | .pu _ f args, ρ => (pres args ρ).bind fun x => match finL args x.1 x.2 with
    | some ds => opt (f ds) x.2
    | none => .stuck
  | .pop i, ρ => match ρ[i]? with
    | some (.ow (.lst l)) => match l.getLast? with
      | some x => .ok (x, ρ.set i (.ow (.lst l.dropLast)))
      | none => .stuck
    | some (.io (.lst l)) => match l.getLast? with
      | some x => .ok (x, ρ.set i (.io (.lst l.dropLast)))
      | none => .stuck
    | _ => .stuck
termination_by structural m => m
def evs : List ME → Rho → Out Rho (List D × Rho)
  | [], ρ => .ok ([], ρ)
  | m :: ms, ρ => (ev m ρ).bind fun x => (evs ms x.2).bind fun y => .ok (x.1 :: y.1, y.2)
termination_by structural m => m
def pres : List ME → Rho → Out Rho (List (Option D) × Rho)
  | [], ρ => .ok ([], ρ)
  | m :: ms, ρ => (pre m (ev m) ρ).bind fun x => (pres ms x.2).bind fun y => .ok (x.1 :: y.1, y.2)
termination_by structural m => m
def evArgs : List PK → List ME → Rho → Out Rho (List (Option D) × Rho)
  | ps, [], ρ => match ps with
    | [] => .ok ([], ρ)
    | _ => .stuck
  | ps, m :: ms, ρ => match ps with
    | [] => .stuck
    | p :: ps => (evArg p m (ev m) ρ).bind fun x => (evArgs ps ms x.2).bind fun y => .ok (x.1 :: y.1, y.2)
termination_by structural _ m => m
def evAnd : List ME → Rho → Res
  | [], ρ => .stuck
  | m :: ms, ρ => (ev m ρ).bind fun x => match x.1 with
    | .bl b => match ms with
      | [] => .ok (.bl b, x.2)
      | _ => if b then evAnd ms x.2 else .ok (.bl false, x.2)
    | _ => .stuck
termination_by structural m => m
def evOr : List ME → Rho → Res
  | [], ρ => .stuck
  | m :: ms, ρ => (ev m ρ).bind fun x => match x.1 with
    | .bl b => match ms with
      | [] => .ok (.bl b, x.2)
      | _ => if b then .ok (.bl true, x.2) else evOr ms x.2
    | _ => .stuck
termination_by structural m => m
def evIfs : List ME → Rho → Out Rho (Bool × Rho)
  | [], ρ => .ok (true, ρ)
  | m :: ms, ρ => match ms with
    | [] => (ev m ρ).bind fun x => match x.1 with
      | .bl b => .ok (b, x.2)
      | _ => .stuck
    | _ => .stuck
termination_by structural m => m
def evPart : List ME → Rho → Out Rho (Option Int × Rho)
  | [], ρ => .ok (none, ρ)
  | m :: ms, ρ => match ms with
    | [] => (ev m ρ).bind fun x => match x.1 with
      | .int i => .ok (some i, x.2)
      | _ => .stuck
    | _ => .stuck
termination_by structural m => m
end
/-- statements -/
inductive MS where
  | asg (tg : Tg) (e : ME)
  | asgF (i : Nat) (e : ME)
  | setI (i : Nat) (k v : ME)
  | setK (i : Nat) (k v : ME)
  | app (i : Nat) (e : ME)
  | setA (c : String) (i k : Nat) (e : ME)
  | forD (tg : Tg) (k : IK) (args : List ME) (body : List MS) (i j : Nat) (kk ee : ME)
  | exp (e : ME)
  | ite (c : ME) (a b : List MS)
  | «for» (tg : Tg) (k : IK) (args : List ME) (body : List MS)
  | whl (c : ME) (body : List MS)
  | ret (e : ME) | retN | retF (e : ME)
  | rai (c : String)
  | tryA (body : List MS) (i : Nat) (tu : Bool) (ps : List (D ⊕ ME))
inductive Fl where
  | nx | ret (d : D)
abbrev ResS := Out Rho (Fl × Rho)
abbrev EvS := Rho → ResS
/-- a value that is a new container -/
def isFresh : ME → Bool
  | .lst _ => true
  | .emp => true
  | .comp .. => true
  | .call f _ => f.fresh
  | .b1 .list _ => true
  | .pu b _ _ => b
  | .meth _ f _ => f.fresh
  | _ => false
def unlockO (ρ0 : Rho) (args : List ME) : ResS → ResS
  | .stuck => .stuck
  | .ok (f, ρ) => .ok (f, unlockE ρ0 args ρ)
  | .exc c ρ => .exc c (unlockE ρ0 args ρ)
def forLoop (body : EvS) (tg : Tg) : List D → Rho → ResS
  | [], ρ => .ok (.nx, ρ)
  | d :: ds, ρ => match setT tg d ρ with
    | none => .stuck
    | some ρ1 => (body ρ1).bind fun r => match r.1 with
      | .nx => forLoop body tg ds r.2
      | .ret v => .ok (.ret v, r.2)
/-- a dict's rows, as a loop makes them by setdefault and append; the dict stands frozen behind it -/
def addRow (k e : D) : List D → List (List D) → List D × List (List D)
  | x :: ks, v :: vs => if x = k then (x :: ks, (v ++ [e]) :: vs) else let r := addRow k e ks vs; (x :: r.1, v :: r.2)
  | _, _ => ([k], [[e]])
def isHid (ρ : Rho) (i : Nat) : Bool := match ρ[i]? with
  | some .hid => true
  | _ => false
def rowLoop (body : EvS) (kk ee : Ev) (tg : Tg) (i j : Nat) : List D → List D → List (List D) → Rho → ResS
  | [], ks, vs, ρ => .ok (.nx, ρ.set i (.im (.dic ks (vs.map .lst))))
  | d :: ds, ks, vs, ρ => match setT tg d ρ with
    | none => .stuck
    | some ρ1 => match body ρ1 with
      | .ok (.nx, ρ2) => match kk ρ2 with
        | .ok (k, ρ3) => match setE ρ3 j .un with
          | some ρ4 => match ee ρ4 with
            | .ok (e, ρ5) => if k.tkey = true ∧ ks.length < 16777000 ∧ (∀ v ∈ vs, v.length < 16777000) then rowLoop body kk ee tg i j ds (addRow k e ks vs).1 (addRow k e ks vs).2 ρ5 else .stuck
            | _ => .stuck
          | none => .stuck
        | _ => .stuck
      | _ => .stuck
def whileLoop (c : Ev) (body : EvS) : Nat → Rho → ResS
  | 0, _ => .stuck
  | n + 1, ρ => (c ρ).bind fun x => match x.1 with
    | .bl true => (body x.2).bind fun r => match r.1 with
      | .nx => whileLoop c body n r.2
      | .ret v => .ok (.ret v, r.2)
    | .bl false => .ok (.nx, x.2)
    | _ => .stuck
/-- own entries -/
def owAt (ρ : Rho) (i : Nat) : Option (D × (D → Ent)) := match ρ[i]? with
  | some (.ow d) => some (d, .ow)
  | some (.io d) => some (d, .io)
  | _ => none
def setIW (d k v : D) : Option D := match d with
  | .lst l => match k with
    | .int i => if 0 ≤ i ∧ i < l.length then some (.lst (l.set i.toNat v)) else none
    | _ => none
  | _ => none
def setKW (d k v : D) : Option D := match d with
  | .dic ks vs => if k.tkey ∧ ks.length < 16777215 then some (.dic (putAt k v ks vs).1 (putAt k v ks vs).2) else none
  | _ => none
def appW (d v : D) : Option D := match d with
  | .lst l => if l.length < 16777215 then some (.lst (l ++ [v])) else none
  | _ => none
/-- the refusals, and what the suite of an except clause tells of one -/
def EXN : List String := ["BadSigns", "BadWord", "BadMachine", "TooMany", "NotPlain", "Unlike", "NoNote"]
def kVal (ρ : Rho) : ME → Option Int
  | .cst d => match d with
    | .int z => some z
    | _ => none
  | .var v => match ρ[v]? with
    | some (.im d) => match d with
      | .int z => some z
      | _ => none
    | _ => none
  | _ => none
def isVar (i : Nat) : ME → Bool
  | .var v => decide (v = i)
  | _ => false
def suD (ρ : Rho) (i j : Nat) : D ⊕ ME → Option D
  | .inl d => some d
  | .inr k => if isVar i k then none else match kVal ρ k with
    | some z => if 0 ≤ z ∧ z < 7 then some (.bl (decide (z = j))) else none
    | none => none
def suDs (ρ : Rho) (i j : Nat) : List (D ⊕ ME) → Option (List D)
  | [] => some []
  | p :: ps => match suD ρ i j p, suDs ρ i j ps with
    | some d, some ds => some (d :: ds)
    | _, _ => none
def suRet (tu : Bool) : List D → Option D
  | ds => if tu then some (.tup ds) else match ds with
    | [d] => some d
    | _ => none
def excIx (c : String) : Option Nat := EXN.findIdx? fun x => x = c
def trySuite (i : Nat) (tu : Bool) (ps : List (D ⊕ ME)) (c : String) (ρ : Rho) : ResS := match excIx c, setE ρ i .un with
  | some j, some ρ2 => match (suDs ρ i j ps).bind (suRet tu) with
    | some d => .ok (.ret d, ρ2)
    | none => .stuck
  | _, _ => .stuck
mutual
def evS (n : Nat) : MS → EvS
  | .asg tg e, ρ => (ev e ρ).bind fun x => match setT tg x.1 x.2 with
    | some ρ' => .ok (.nx, ρ')
    | none => .stuck
  | .asgF i e, ρ => if isFresh e then (ev e ρ).bind fun x => match setE x.2 i (.ow x.1) with
    | some ρ' => .ok (.nx, ρ')
    | none => .stuck else .stuck
  | .setI i k v, ρ => (ev v ρ).bind fun x => match owAt x.2 i with
    | some _ => (ev k x.2).bind fun y => match owAt y.2 i with
      | some (d, f) => match setIW d y.1 x.1 with
        | some d' => .ok (.nx, y.2.set i (f d'))
        | none => .stuck
      | none => .stuck
    | none => .stuck
  | .setK i k v, ρ => (ev v ρ).bind fun x => match owAt x.2 i with
    | some _ => (ev k x.2).bind fun y => match owAt y.2 i with
      | some (d, f) => match setKW d y.1 x.1 with
        | some d' => .ok (.nx, y.2.set i (f d'))
        | none => .stuck
      | none => .stuck
    | none => .stuck
  | .app i e, ρ => match owAt ρ i with
    | some (.lst _, _) => (ev e ρ).bind fun x => match owAt x.2 i with
      | some (d, f) => match appW d x.1 with
        | some d' => .ok (.nx, x.2.set i (f d'))
        | none => .stuck
      | none => .stuck
    | _ => .stuck
  | .setA c i k e, ρ => (ev e ρ).bind fun x => match owAt x.2 i with
    | some (.obj c' l, f) => if c = c' ∧ l.length = k ∧ k < (flds c).length then .ok (.nx, x.2.set i (f (.obj c (l ++ [x.1])))) else .stuck
    | _ => .stuck
  | .forD tg k args body i j kk ee, ρ => (pres args ρ).bind fun x => match (finL args x.1 x.2).bind (iterD k) with
    | none => .stuck
    | some items => match (lockE args x.2)[i]? with
      | some (.ow (.dic [] [])) => unlockO x.2 args (rowLoop (evSs n body) (ev kk) (ev ee) tg i j items [] [] ((lockE args x.2).set i .hid))
      | _ => .stuck
  | .exp e, ρ => (ev e ρ).bind fun x => .ok (.nx, x.2)
  | .ite c a b, ρ => (ev c ρ).bind fun x => match x.1 with
    | .bl true => evSs n a x.2
    | .bl false => evSs n b x.2
    | _ => .stuck
  | .for tg k args body, ρ => (pres args ρ).bind fun x => match (finL args x.1 x.2).bind (iterD k) with
    | none => .stuck
    | some items => unlockO x.2 args (forLoop (evSs n body) tg items (lockE args x.2))
  | .whl c body, ρ => whileLoop (ev c) (evSs n body) n ρ
  | .ret e, ρ => (ev e ρ).bind fun x => .ok (.ret x.1, x.2)
  | .retN, ρ => .ok (.ret .non, ρ)
  | .retF e, ρ => match e with
    | .var i => match ρ[i]? with
      | some (.ow d) => .ok (.ret d, ρ.set i .un)
      | _ => .stuck
    | _ => if isFresh e then (ev e ρ).bind fun x => .ok (.ret x.1, x.2) else .stuck
  | .rai c, ρ => .exc c ρ
  | .tryA b i tu ps, ρ => match evSs n b ρ with
    | .exc c ρ' => trySuite i tu ps c ρ'
    | o => o
termination_by structural m => m
def evSs (n : Nat) : List MS → EvS
  | [], ρ => .ok (.nx, ρ)
  | m :: ms, ρ => (evS n m ρ).bind fun r => match r.1 with
    | .nx => evSs n ms r.2
    | .ret v => .ok (.ret v, r.2)
termination_by structural m => m
end
end NV

/-! NV.B: what data a value denotes; the relation between names' data and the machine's state. -/
namespace NV
open PySem PySem.Spec PyProof.Rows L2

abbrev St := L2.St
structure Ct where
  P : Program
  w : World
  K : PySem.W.Frag
  mg : Str → Option Value
abbrev ctx (X : Cx) : Ct := ⟨X.prog, X.w, X.K, X.mg⟩

mutual
def keyOf : D → Option NestedKey
  | .non => some .none
  | .int i => some (.num i)
  | .str s => some (.text ⟨s.toArray⟩)
  | .tup l => (keysOf l).map .tup
  | .bl _ => none | .lst _ => none | .dic _ _ => none | .obj _ _ => none | .scr _ => none | .adr _ => none
def keysOf : List D → Option (List NestedKey)
  | [] => some []
  | x :: l => match keyOf x, keysOf l with
    | some k, some ks => some (k :: ks)
    | _, _ => none
end
/-- a dict with tuple keys: each key, the place of its tuple, its value -/
def dHO (c : Ct) (a : Addr) (xs : List (NestedKey × Addr × V)) : HO := .ext fun h =>
  (a == sysModules) = false ∧ xs.length ≤ sizeLine ∧ (xs.map (·.1)).Nodup ∧ ∃ ys : List (NestedKey × Addr × Value), Paired (fun (p : NestedKey × Addr × V) (q : NestedKey × Addr × Value) => p.1 = q.1 ∧ p.2.1 = q.2.1 ∧ RelV p.2.2 q.2.2) xs ys ∧
    ∃ o es ep, h.get? a = some o ∧ o.ExactDict ∧ o.data = .dict es ep ∧ es.toList = ys.map (entryOfKey (nestedKind c.P c.w))
def strGood (s : List Nat) : Prop := s.length ≤ 16777216 ∧ ∀ x ∈ s, x < 0x110000
mutual
def Den (c : Ct) (H : Hp) : D → V → Prop
  | .non, v => v = .non
  | .bl b, v => v = .bl b
  | .int i, v => v = .int i
  | .str s, v => v = .str ⟨s.toArray⟩ ∧ strGood s
  | .tup l, v => ∃ a vs, v = .ref a ∧ SqT c.K H a vs ∧ Dens c H l vs
  | .lst l, v => ∃ a vs, v = .ref a ∧ H a = some (.lst vs) ∧ Dens c H l vs
  | .dic ks ds, v => ∃ a xs, v = .ref a ∧ H a = some (dHO c a xs) ∧ (keysOf ks = some (xs.map (·.1)) ∧ ks.all D.tkey = true) ∧ Dens c H ks (xs.map fun x => V.ref x.2.1) ∧ Dens c H ds (xs.map (·.2.2))
  | .obj n l, v => ∃ a C dx fs, v = .ref a ∧ c.mg (Str.ofString n) = some (.ref C) ∧ H a = some (.ins C dx fs) ∧ fs.map (·.1) = (flds n).take l.length ∧ Dens c H l (fs.map (·.2))
  | .scr l, v => ∃ a, v = .ref a ∧ SqL c.K H a (l.map V.int)
  | .adr a, v => v = .ref a
termination_by structural d => d
def Dens (c : Ct) (H : Hp) : List D → List V → Prop
  | [], vs => vs = []
  | d :: ds, vs => ∃ v r, vs = v :: r ∧ Den c H d v ∧ Dens c H ds r
termination_by structural ds => ds
end
section
variable {c : Ct} {H H' Hf Hf' : Hp}
theorem Dens.nil_iff {vs : List V} : Dens c H [] vs ↔ vs = [] := by simp [Dens]
theorem Dens.cons_iff {d : D} {ds : List D} {v : V} {vs : List V} : Dens c H (d :: ds) (v :: vs) ↔ Den c H d v ∧ Dens c H ds vs := by
  constructor
  · rintro ⟨v', r, e, h1, h2⟩
    cases e
    exact ⟨h1, h2⟩
  · rintro ⟨h1, h2⟩
    exact ⟨v, vs, rfl, h1, h2⟩
theorem Same.seqT {K : PySem.W.Frag} {a : Addr} {xs : List V} (e : Same H H') (h : SqT K H a xs) : SqT K H' a xs := by
  rcases h with (h | ⟨o, h⟩) | h
  · exact .inl (.inl (e _ _ h))
  · exact .inl (.inr ⟨o, e _ _ h⟩)
  · exact .inr h
mutual
theorem Den.mono (e : Same H H') : ∀ (d : D) (v : V), Den c H d v → Den c H' d v
  | .non, _, h => h
  | .bl _, _, h => h
  | .int _, _, h => h
  | .str _, _, h => h
  | .tup l, _, ⟨a, vs, q, h1, h2⟩ => ⟨a, vs, q, Same.seqT e h1, Dens.mono e l vs h2⟩
  | .lst l, _, ⟨a, vs, q, h1, h2⟩ => ⟨a, vs, q, e _ _ h1, Dens.mono e l vs h2⟩
  | .dic ks ds, _, ⟨a, xs, q, h1, h2, h3, h4⟩ => ⟨a, xs, q, e _ _ h1, h2, Dens.mono e ks _ h3, Dens.mono e ds _ h4⟩
  | .obj n l, _, ⟨a, C, dx, fs, q, h1, h2, h3, h4⟩ => ⟨a, C, dx, fs, q, h1, e _ _ h2, h3, Dens.mono e l _ h4⟩
  | .scr l, _, ⟨a, q, h⟩ => ⟨a, q, L2.Same.seq e h⟩
  | .adr _, _, h => h
termination_by structural d => d
theorem Dens.mono (e : Same H H') : ∀ (ds : List D) (vs : List V), Dens c H ds vs → Dens c H' ds vs
  | [], _, h => h
  | d :: ds, _, ⟨v, r, q, h1, h2⟩ => ⟨v, r, q, Den.mono e d v h1, Dens.mono e ds r h2⟩
termination_by structural ds => ds
end
theorem Dens.length : ∀ {ds : List D} {vs : List V}, Dens c H ds vs → ds.length = vs.length
  | [], vs, h => by cases h; rfl
  | d :: ds, vs, h => by
    obtain ⟨v, r, rfl, _, h2⟩ := h
    simp [Dens.length h2]
theorem Dens.get : ∀ {ds : List D} {vs : List V} {i : Nat} {d : D}, Dens c H ds vs → ds[i]? = some d → ∃ v, vs[i]? = some v ∧ Den c H d v
  | [], _, _, _, _, e => by simp at e
  | d' :: ds, vs, 0, d, h, e => by
    obtain ⟨v, r, rfl, h1, h2⟩ := h
    simp at e
    subst e
    exact ⟨v, rfl, h1⟩
  | d' :: ds, vs, i + 1, d, h, e => by
    obtain ⟨v, r, rfl, h1, h2⟩ := h
    obtain ⟨v', q1, q2⟩ := Dens.get (i := i) h2 (by simpa using e)
    exact ⟨v', by simpa using q1, q2⟩
theorem Dens.getV : ∀ {ds : List D} {vs : List V} {i : Nat} {v : V}, Dens c H ds vs → vs[i]? = some v → ∃ d, ds[i]? = some d ∧ Den c H d v
  | [], vs, _, _, h, e => by
    cases h
    simp at e
  | d' :: ds, vs, 0, v', h, e => by
    obtain ⟨v, r, rfl, h1, h2⟩ := h
    simp at e
    subst e
    exact ⟨d', rfl, h1⟩
  | d' :: ds, vs, i + 1, v', h, e => by
    obtain ⟨v, r, rfl, h1, h2⟩ := h
    obtain ⟨d, q1, q2⟩ := Dens.getV (i := i) h2 (by simpa using e)
    exact ⟨d, by simpa using q1, q2⟩
theorem Dens.append : ∀ {ds ds' : List D} {vs vs' : List V}, Dens c H ds vs → Dens c H ds' vs' → Dens c H (ds ++ ds') (vs ++ vs')
  | [], _, _, _, h, h' => by
    cases h
    exact h'
  | d :: ds, _, _, _, h, h' => by
    obtain ⟨v, r, rfl, h1, h2⟩ := h
    exact ⟨v, _, rfl, h1, Dens.append h2 h'⟩
theorem Dens.one {d : D} {v : V} (h : Den c H d v) : Dens c H [d] [v] := ⟨v, [], rfl, h, rfl⟩
theorem Dens.take : ∀ (n : Nat) {ds : List D} {vs : List V}, Dens c H ds vs → Dens c H (ds.take n) (vs.take n)
  | 0, _, _, _ => rfl
  | n + 1, [], _, h => by
    cases h
    rfl
  | n + 1, d :: ds, _, h => by
    obtain ⟨v, r, rfl, h1, h2⟩ := h
    exact ⟨v, _, rfl, h1, Dens.take n h2⟩
theorem Dens.drop : ∀ (n : Nat) {ds : List D} {vs : List V}, Dens c H ds vs → Dens c H (ds.drop n) (vs.drop n)
  | 0, _, _, h => h
  | n + 1, [], _, h => by
    cases h
    rfl
  | n + 1, d :: ds, _, h => by
    obtain ⟨v, r, rfl, h1, h2⟩ := h
    exact Dens.drop n h2
theorem Dens.set : ∀ (i : Nat) {ds : List D} {vs : List V} {d : D} {v : V}, Dens c H ds vs → Den c H d v → Dens c H (ds.set i d) (vs.set i v)
  | _, [], _, _, _, h, _ => by
    cases h
    rfl
  | 0, d :: ds, _, _, _, h, hd => by
    obtain ⟨v, r, rfl, h1, h2⟩ := h
    exact ⟨_, _, rfl, hd, h2⟩
  | i + 1, d :: ds, _, _, _, h, hd => by
    obtain ⟨v, r, rfl, h1, h2⟩ := h
    exact ⟨_, _, rfl, h1, Dens.set i h2 hd⟩
theorem Dens.reverse : ∀ {ds : List D} {vs : List V}, Dens c H ds vs → Dens c H ds.reverse vs.reverse
  | [], _, h => by
    cases h
    rfl
  | d :: ds, _, h => by
    obtain ⟨v, r, rfl, h1, h2⟩ := h
    rw [List.reverse_cons, List.reverse_cons]
    exact Dens.append (Dens.reverse h2) (Dens.one h1)
end

/-- a container at a that is not frozen; its items are -/
def Own (c : Ct) (Hf H : Hp) (d : D) (a : Addr) : Prop := Hf a = none ∧ match d with
  | .lst l => ∃ vs, H a = some (.lst vs) ∧ Dens c Hf l vs
  | .dic ks ds => ∃ xs, H a = some (dHO c a xs) ∧ (keysOf ks = some (xs.map (·.1)) ∧ ks.all D.tkey = true) ∧ Dens c Hf ks (xs.map fun x => V.ref x.2.1) ∧ Dens c Hf ds (xs.map (·.2.2))
  | .obj n l => ∃ C dx fs, c.mg (Str.ofString n) = some (.ref C) ∧ H a = some (.ins C dx fs) ∧ fs.map (·.1) = (flds n).take l.length ∧ Dens c Hf l (fs.map (·.2))
  | _ => False
/-- what a value shows at its top, frozen or not -/
def Top (c : Ct) (Hf H : Hp) (d : D) (v : V) : Prop := match d with
  | .lst l => ∃ a vs, v = .ref a ∧ H a = some (.lst vs) ∧ Dens c Hf l vs
  | .dic ks ds => ∃ a xs, v = .ref a ∧ H a = some (dHO c a xs) ∧ (keysOf ks = some (xs.map (·.1)) ∧ ks.all D.tkey = true) ∧ Dens c Hf ks (xs.map fun x => V.ref x.2.1) ∧ Dens c Hf ds (xs.map (·.2.2))
  | .obj n l => ∃ a C dx fs, v = .ref a ∧ c.mg (Str.ofString n) = some (.ref C) ∧ H a = some (.ins C dx fs) ∧ fs.map (·.1) = (flds n).take l.length ∧ Dens c Hf l (fs.map (·.2))
  | d => Den c Hf d v
section
variable {c : Ct} {H H' Hf Hf' : Hp} {d : D} {v : V} {a : Addr}
theorem Top.of_den (s : Same Hf H) (h : Den c Hf d v) : Top c Hf H d v := by
  cases d with
  | lst l =>
    obtain ⟨a, vs, q, h1, h2⟩ := h
    exact ⟨a, vs, q, s _ _ h1, h2⟩
  | dic ks ds =>
    obtain ⟨a, xs, q, h1, h2⟩ := h
    exact ⟨a, xs, q, s _ _ h1, h2⟩
  | obj n l =>
    obtain ⟨a, C, dx, fs, q, h1, h2, h3⟩ := h
    exact ⟨a, C, dx, fs, q, h1, s _ _ h2, h3⟩
  | _ => exact h
theorem Top.of_own (h : Own c Hf H d a) : Top c Hf H d (.ref a) := by
  obtain ⟨_, h⟩ := h
  cases d with
  | lst l =>
    obtain ⟨vs, h1, h2⟩ := h
    exact ⟨a, vs, rfl, h1, h2⟩
  | dic ks ds =>
    obtain ⟨xs, h1, h2⟩ := h
    exact ⟨a, xs, rfl, h1, h2⟩
  | obj n l =>
    obtain ⟨C, dx, fs, h1, h2, h3⟩ := h
    exact ⟨a, C, dx, fs, rfl, h1, h2, h3⟩
  | _ => exact h.elim
theorem Own.there (h : Own c Hf H d a) : ∃ o, H a = some o := by
  obtain ⟨_, h⟩ := h
  cases d with
  | lst l =>
    obtain ⟨vs, h1, h2⟩ := h
    exact ⟨_, h1⟩
  | dic ks ds =>
    obtain ⟨xs, h1, h2⟩ := h
    exact ⟨_, h1⟩
  | obj n l =>
    obtain ⟨C, dx, fs, h1, h2, h3⟩ := h
    exact ⟨_, h2⟩
  | _ => exact h.elim
/-- it stays while it stands and the frozen part grows elsewhere -/
theorem Own.keep (h : Own c Hf H d a) (s : Same Hf Hf') (hn : Hf' a = none) (ha : ∀ o, H a = some o → H' a = some o) : Own c Hf' H' d a := by
  obtain ⟨h0, h⟩ := h
  refine ⟨hn, ?_⟩
  cases d with
  | lst l =>
    obtain ⟨vs, h1, h2⟩ := h
    exact ⟨vs, ha _ h1, Dens.mono s _ _ h2⟩
  | dic ks ds =>
    obtain ⟨xs, h1, h2, h3, h4⟩ := h
    exact ⟨xs, ha _ h1, h2, Dens.mono s _ _ h3, Dens.mono s _ _ h4⟩
  | obj n l =>
    obtain ⟨C, dx, fs, h1, h2, h3, h4⟩ := h
    exact ⟨C, dx, fs, h1, ha _ h2, h3, Dens.mono s _ _ h4⟩
  | _ => exact h.elim
/-- frozen -/
theorem Own.freeze (h : Own c Hf H d a) {o : HO} (ho : H a = some o) : Den c (upd Hf a o) d (.ref a) := by
  obtain ⟨h0, h⟩ := h
  have s : Same Hf (upd Hf a o) := fun b u e => by rw [upd_ne (ne_of_none e h0)]; exact e
  cases d with
  | lst l =>
    obtain ⟨vs, h1, h2⟩ := h
    rw [ho] at h1
    cases h1
    exact ⟨a, vs, rfl, upd_same, Dens.mono s _ _ h2⟩
  | dic ks ds =>
    obtain ⟨xs, h1, h2, h3, h4⟩ := h
    rw [ho] at h1
    cases h1
    exact ⟨a, xs, rfl, upd_same, h2, Dens.mono s _ _ h3, Dens.mono s _ _ h4⟩
  | obj n l =>
    obtain ⟨C, dx, fs, h1, h2, h3, h4⟩ := h
    rw [ho] at h2
    cases h2
    exact ⟨a, C, dx, fs, rfl, h1, upd_same, h3, Dens.mono s _ _ h4⟩
  | _ => exact h.elim
end

/-- the frame of a piece of code: the heap and its frozen part ahead of it, what may be written, the pinned names (none: io; some d: read only) -/
structure Fr where
  H0 : Hp
  F0 : Hp
  Mu : Addr → Prop
  L : Nat → Addr → Option D → Prop
  G : Addr → Option HO
def Ent.own? : Ent → Option D
  | .ow d => some d
  | .io d => some d
  | .br d => some d
  | _ => none
/-- what a pinned slot's entry is -/
def pinE : D → Ent
  | .adr _ => .hid
  | d => .br d
theorem pinE_or (d : D) : pinE d = .br d ∨ pinE d = .hid := by cases d <;> first | exact .inl rfl | exact .inr rfl
/-- slot i holds the own container at a -/
def OwnAt (ρ : Rho) (σ : St) (i : Nat) (a : Addr) : Prop := ∃ e d, ρ[i]? = some e ∧ e.own? = some d ∧ σ[i]? = some (some (.ref a))
structure R (c : Ct) (F : Fr) (ρ : Rho) (σ : St) (H Hf : Hp) : Prop where
  len : ρ.length = σ.length
  sub : Same Hf H
  subf : Same F.F0 Hf
  live : ∀ a o, F.H0 a = some o → ∃ o', H a = some o'
  keep : ∀ a o, F.H0 a = some o → ¬ F.Mu a → H a = some o
  out : ∀ a o, F.H0 a = some o → F.F0 a = none → Hf a = none
  im : ∀ (i : Nat) (d : D), ρ[i]? = some (.im d) → ∃ v, σ[i]? = some (some v) ∧ Den c Hf d v
  own : ∀ (i : Nat) (e : Ent) (d : D), ρ[i]? = some e → e.own? = some d → ∃ a, σ[i]? = some (some (.ref a)) ∧ Own c Hf H d a
  dist : ∀ (i j : Nat) (a : Addr), OwnAt ρ σ i a → OwnAt ρ σ j a → i = j
  ow : ∀ (i : Nat) (d : D) (a : Addr), ρ[i]? = some (.ow d) → σ[i]? = some (some (.ref a)) → F.H0 a = none
  io : ∀ (i : Nat) (d : D) (a : Addr), ρ[i]? = some (.io d) → σ[i]? = some (some (.ref a)) → F.Mu a
  pin : ∀ i a o, F.L i a o → σ[i]? = some (some (.ref a)) ∧ ∃ e, ρ[i]? = some e ∧ match o with
    | none => ∃ d, e = .io d
    | some d => e = pinE d
  brL : ∀ (i : Nat) (d : D), ρ[i]? = some (.br d) → ∃ a, F.L i a (some d)
  grd : ∀ a o, F.G a = some o → H a = some o ∧ Hf a = none ∧ ∀ i, ¬ OwnAt ρ σ i a
section
variable {c : Ct} {F : Fr} {ρ : Rho} {σ : St} {H H' Hf : Hp} {a : Addr} {o : HO} {d : D} {v : V} {i : Nat}
theorem R.free (r : R c F ρ σ H Hf) (h : H a = none) : Hf a = none ∧ F.H0 a = none := by
  constructor
  · cases q : Hf a with
    | none => rfl
    | some o => rw [r.sub _ _ q] at h; cases h
  · cases q : F.H0 a with
    | none => rfl
    | some o =>
      obtain ⟨o', e⟩ := r.live _ _ q
      rw [e] at h
      cases h
theorem same_upd {H : Hp} {p : Addr} {o : HO} (h : H p = none) : Same H (upd H p o) := fun b x e => by
  rw [upd_ne (ne_of_none e h)]
  exact e
/-- the own container's place is no new one -/
theorem R.own_ne (r : R c F ρ σ H Hf) {b : Addr} (h : OwnAt ρ σ i b) (hn : H a = none) : b ≠ a := by
  obtain ⟨e, d, h1, h2, h3⟩ := h
  obtain ⟨a', q1, q2⟩ := r.own i e d h1 h2
  rw [h3] at q1
  cases q1
  obtain ⟨o, ho⟩ := q2.there
  exact ne_of_none ho hn
/-- a new object, frozen at once -/
theorem R.alloc (r : R c F ρ σ H Hf) (hn : H a = none) (o : HO) : R c F ρ σ (upd H a o) (upd Hf a o) ∧ Same Hf (upd Hf a o) := by
  obtain ⟨f1, f2⟩ := r.free hn
  have s1 := same_upd (o := o) f1
  refine ⟨⟨r.len, fun b u e => ?_, r.subf.trans s1, fun b u e => ?_, fun b u e m => ?_, fun b u e e2 => ?_, fun i d e => ?_, fun i e d h1 h2 => ?_, r.dist, r.ow, r.io, r.pin, r.brL, fun b u q => ?_⟩, s1⟩
  rotate_right
  · obtain ⟨q1, q2, q3⟩ := r.grd b u q
    have hb : b ≠ a := ne_of_none q1 hn
    exact ⟨by rw [upd_ne hb]; exact q1, by rw [upd_ne hb]; exact q2, q3⟩
  · by_cases hb : b = a
    · subst hb
      rw [upd_same] at e ⊢
      exact e
    · rw [upd_ne hb] at e ⊢
      exact r.sub _ _ e
  · have hb : b ≠ a := ne_of_none e f2
    rw [upd_ne hb]
    exact r.live _ _ e
  · rw [upd_ne (ne_of_none e f2)]
    exact r.keep _ _ e m
  · rw [upd_ne (ne_of_none e f2)]
    exact r.out _ _ e e2
  · obtain ⟨v, h1, h2⟩ := r.im i d e
    exact ⟨v, h1, Den.mono s1 _ _ h2⟩
  · obtain ⟨b, q1, q2⟩ := r.own i e d h1 h2
    have hb : b ≠ a := r.own_ne ⟨e, d, h1, h2, q1⟩ hn
    exact ⟨b, q1, q2.keep s1 (by rw [upd_ne hb]; exact q2.1) fun u hu => by rw [upd_ne hb]; exact hu⟩
/-- a new object that is not frozen -/
theorem R.allocOwn (r : R c F ρ σ H Hf) (hn : H a = none) (o : HO) : R c F ρ σ (upd H a o) Hf := by
  obtain ⟨f1, f2⟩ := r.free hn
  refine ⟨r.len, fun b u e => ?_, r.subf, fun b u e => ?_, fun b u e m => ?_, r.out, r.im, fun i e d h1 h2 => ?_, r.dist, r.ow, r.io, r.pin, r.brL, fun b u q => ?_⟩
  rotate_right
  · obtain ⟨q1, q2, q3⟩ := r.grd b u q
    have hb : b ≠ a := ne_of_none q1 hn
    exact ⟨by rw [upd_ne hb]; exact q1, q2, q3⟩
  · rw [upd_ne (ne_of_none e f1)]
    exact r.sub _ _ e
  · rw [upd_ne (ne_of_none e f2)]
    exact r.live _ _ e
  · rw [upd_ne (ne_of_none e f2)]
    exact r.keep _ _ e m
  · obtain ⟨b, q1, q2⟩ := r.own i e d h1 h2
    have hb : b ≠ a := r.own_ne ⟨e, d, h1, h2, q1⟩ hn
    exact ⟨b, q1, q2.keep (Same.refl _) q2.1 fun u hu => by rw [upd_ne hb]; exact hu⟩
/-- a container that is of no name is frozen -/
theorem R.freeze (r : R c F ρ σ H Hf) (w : Own c Hf H d a) (h0 : F.H0 a = none) (hu : ∀ i, ¬ OwnAt ρ σ i a) (hg : F.G a = none) :
    ∃ Hf', R c F ρ σ H Hf' ∧ Same Hf Hf' ∧ Den c Hf' d (.ref a) := by
  obtain ⟨o, ho⟩ := w.there
  have s1 := same_upd (o := o) w.1
  refine ⟨upd Hf a o, ⟨r.len, fun b u e => ?_, r.subf.trans s1, r.live, r.keep, fun b u e e2 => ?_, fun i d e => ?_, fun i e d h1 h2 => ?_, r.dist, r.ow, r.io, r.pin, r.brL, fun b u q => ?_⟩, s1, w.freeze ho⟩
  rotate_right
  · obtain ⟨q1, q2, q3⟩ := r.grd b u q
    have hb : b ≠ a := fun z => by rw [z, hg] at q; cases q
    exact ⟨q1, by rw [upd_ne hb]; exact q2, q3⟩
  · by_cases hb : b = a
    · subst hb
      rw [upd_same] at e
      cases e
      exact ho
    · rw [upd_ne hb] at e
      exact r.sub _ _ e
  · rw [upd_ne (ne_of_none e h0)]
    exact r.out _ _ e e2
  · obtain ⟨v, h1, h2⟩ := r.im i d e
    exact ⟨v, h1, Den.mono s1 _ _ h2⟩
  · obtain ⟨b, q1, q2⟩ := r.own i e d h1 h2
    have hb : b ≠ a := fun z => hu i ⟨e, d, h1, h2, by rw [← z]; exact q1⟩
    exact ⟨b, q1, q2.keep s1 (by rw [upd_ne hb]; exact q2.1) fun u hu => hu⟩
theorem get_set {α : Type} {l : List α} {i j : Nat} {x y : α} (h : (l.set i x)[j]? = some y) : (i = j ∧ y = x ∧ i < l.length) ∨ (i ≠ j ∧ l[j]? = some y) := by
  by_cases e : i = j
  · subst e
    by_cases hl : i < l.length
    · rw [List.getElem?_set_self hl] at h
      cases h
      exact .inl ⟨rfl, rfl, hl⟩
    · rw [List.getElem?_eq_none (by simpa using hl)] at h
      cases h
  · rw [List.getElem?_set_ne e] at h
    exact .inr ⟨e, h⟩
theorem lt_of_get {α : Type} {l : List α} {i : Nat} {x : α} (h : l[i]? = some x) : i < l.length := (List.getElem?_eq_some_iff.mp h).1
theorem setE_some {ρ ρ' : Rho} {i : Nat} {e : Ent} (h : setE ρ i e = some ρ') : ρ' = ρ.set i e ∧ i < ρ.length ∧ ∃ e0, ρ[i]? = some e0 ∧ (e0 = .un ∨ (∃ d, e0 = .im d) ∨ ∃ d, e0 = .ow d) := by
  unfold setE at h
  cases q : ρ[i]? with
  | none => rw [q] at h; cases h
  | some e0 =>
    rw [q] at h
    cases e0 with
    | un => cases h; exact ⟨rfl, lt_of_get q, _, rfl, .inl rfl⟩
    | im d => cases h; exact ⟨rfl, lt_of_get q, _, rfl, .inr (.inl ⟨d, rfl⟩)⟩
    | ow d => cases h; exact ⟨rfl, lt_of_get q, _, rfl, .inr (.inr ⟨d, rfl⟩)⟩
    | io d => cases h
    | br d => cases h
    | hid => cases h
theorem R.nopin (r : R c F ρ σ H Hf) {e0 : Ent} (h : ρ[i]? = some e0) (h0 : e0 = .un ∨ (∃ d, e0 = .im d) ∨ ∃ d, e0 = .ow d) : ∀ j a o, F.L j a o → j ≠ i := fun j a o hp z => by
  obtain ⟨_, e, h1, h2⟩ := r.pin j a o hp
  rw [z, h] at h1
  cases h1
  split at h2
  · obtain ⟨d, rfl⟩ := h2
    rcases h0 with h0 | ⟨_, h0⟩ | ⟨_, h0⟩ <;> cases h0
  · rename_i d
    rcases pinE_or d with q | q <;> rw [q] at h2 <;> subst h2 <;> rcases h0 with h0 | ⟨_, h0⟩ | ⟨_, h0⟩ <;> cases h0
/-- a slot is set to frozen data -/
theorem R.setIm (r : R c F ρ σ H Hf) {ρ' : Rho} (h : setE ρ i (.im d) = some ρ') (hd : Den c Hf d v) : R c F ρ' (σ.set i (some v)) H Hf := by
  obtain ⟨rfl, hl, e0, he0, hk⟩ := setE_some h
  have np := r.nopin he0 hk
  have hs : i < σ.length := by rw [← r.len]; exact hl
  have ownAt : ∀ j b, OwnAt (ρ.set i (.im d)) (σ.set i (some v)) j b → j ≠ i ∧ OwnAt ρ σ j b := fun j b ⟨e, d', h1, h2, h3⟩ => by
    rcases get_set h1 with ⟨rfl, rfl, _⟩ | ⟨hn, h1⟩
    · cases h2
    · rw [List.getElem?_set_ne hn] at h3
      exact ⟨Ne.symm hn, e, d', h1, h2, h3⟩
  refine ⟨by simp [r.len], r.sub, r.subf, r.live, r.keep, r.out, fun j d' e => ?_, fun j e d' h1 h2 => ?_, fun j k b h1 h2 => r.dist j k b (ownAt _ _ h1).2 (ownAt _ _ h2).2, fun j d' b h1 h2 => ?_, fun j d' b h1 h2 => ?_, fun j b o hp => ?_, fun j d' e => ?_, fun b u q => ?_⟩
  rotate_right 2
  · rcases get_set e with ⟨rfl, e, _⟩ | ⟨hn, e⟩
    · cases e
    · exact r.brL j d' e
  · obtain ⟨q1, q2, q3⟩ := r.grd b u q
    exact ⟨q1, q2, fun i w => q3 i (ownAt _ _ w).2⟩
  · rcases get_set e with ⟨rfl, e, _⟩ | ⟨hn, e⟩
    · cases e
      exact ⟨v, List.getElem?_set_self hs, hd⟩
    · rw [List.getElem?_set_ne hn]
      exact r.im j d' e
  · rcases get_set h1 with ⟨rfl, rfl, _⟩ | ⟨hn, h1⟩
    · cases h2
    · rw [List.getElem?_set_ne hn]
      exact r.own j e d' h1 h2
  · rcases get_set h1 with ⟨rfl, e, _⟩ | ⟨hn, h1⟩
    · cases e
    · rw [List.getElem?_set_ne hn] at h2
      exact r.ow j d' b h1 h2
  · rcases get_set h1 with ⟨rfl, e, _⟩ | ⟨hn, h1⟩
    · cases e
    · rw [List.getElem?_set_ne hn] at h2
      exact r.io j d' b h1 h2
  · obtain ⟨h1, e, h2, h3⟩ := r.pin j b o hp
    have hn := Ne.symm (np j b o hp)
    rw [List.getElem?_set_ne hn, List.getElem?_set_ne hn]
    exact ⟨h1, e, h2, h3⟩
/-- a slot is set to a new own container -/
theorem R.setOw (r : R c F ρ σ H Hf) {ρ' : Rho} (h : setE ρ i (.ow d) = some ρ') (hd : Own c Hf H d a) (h0 : F.H0 a = none) (hu : ∀ j, ¬ OwnAt ρ σ j a) (hg : F.G a = none) : R c F ρ' (σ.set i (some (.ref a))) H Hf := by
  obtain ⟨rfl, hl, e0, he0, hk⟩ := setE_some h
  have np := r.nopin he0 hk
  have hs : i < σ.length := by rw [← r.len]; exact hl
  have ownAt : ∀ j b, OwnAt (ρ.set i (.ow d)) (σ.set i (some (.ref a))) j b → (j = i ∧ b = a) ∨ (j ≠ i ∧ OwnAt ρ σ j b) := fun j b ⟨e, d', h1, h2, h3⟩ => by
    rcases get_set h1 with ⟨rfl, rfl, _⟩ | ⟨hn, h1⟩
    · rw [List.getElem?_set_self hs] at h3
      cases h3
      exact .inl ⟨rfl, rfl⟩
    · rw [List.getElem?_set_ne hn] at h3
      exact .inr ⟨Ne.symm hn, e, d', h1, h2, h3⟩
  refine ⟨by simp [r.len], r.sub, r.subf, r.live, r.keep, r.out, fun j d' e => ?_, fun j e d' h1 h2 => ?_, fun j k b h1 h2 => ?_, fun j d' b h1 h2 => ?_, fun j d' b h1 h2 => ?_, fun j b o hp => ?_, fun j d' e => ?_, fun b u q => ?_⟩
  rotate_right 2
  · rcases get_set e with ⟨rfl, e, _⟩ | ⟨hn, e⟩
    · cases e
    · exact r.brL j d' e
  · obtain ⟨q1, q2, q3⟩ := r.grd b u q
    refine ⟨q1, q2, fun i w => ?_⟩
    rcases ownAt _ _ w with ⟨_, rfl⟩ | ⟨_, w⟩
    · rw [hg] at q
      cases q
    · exact q3 i w
  · rcases get_set e with ⟨rfl, e, _⟩ | ⟨hn, e⟩
    · cases e
    · rw [List.getElem?_set_ne hn]
      exact r.im j d' e
  · rcases get_set h1 with ⟨rfl, rfl, _⟩ | ⟨hn, h1⟩
    · cases h2
      exact ⟨a, List.getElem?_set_self hs, hd⟩
    · rw [List.getElem?_set_ne hn]
      exact r.own j e d' h1 h2
  · rcases ownAt _ _ h1 with ⟨rfl, rfl⟩ | ⟨n1, o1⟩ <;> rcases ownAt _ _ h2 with ⟨e1, e2⟩ | ⟨n2, o2⟩
    · exact e1.symm
    · exact (hu _ o2).elim
    · subst e2
      exact (hu _ o1).elim
    · exact r.dist _ _ _ o1 o2
  · rcases get_set h1 with ⟨rfl, e, _⟩ | ⟨hn, h1⟩
    · rw [List.getElem?_set_self hs] at h2
      cases h2
      exact h0
    · rw [List.getElem?_set_ne hn] at h2
      exact r.ow j d' b h1 h2
  · rcases get_set h1 with ⟨rfl, e, _⟩ | ⟨hn, h1⟩
    · cases e
    · rw [List.getElem?_set_ne hn] at h2
      exact r.io j d' b h1 h2
  · obtain ⟨h1, e, h2, h3⟩ := r.pin j b o hp
    have hn := Ne.symm (np j b o hp)
    rw [List.getElem?_set_ne hn, List.getElem?_set_ne hn]
    exact ⟨h1, e, h2, h3⟩
/-- a slot is wiped -/
theorem R.setUn (r : R c F ρ σ H Hf) {ρ' : Rho} {x : Option V} (h : setE ρ i .un = some ρ') : R c F ρ' (σ.set i x) H Hf := by
  obtain ⟨rfl, hl, e0, he0, hk⟩ := setE_some h
  have np := r.nopin he0 hk
  have hs : i < σ.length := by rw [← r.len]; exact hl
  have ownAt : ∀ j b, OwnAt (ρ.set i .un) (σ.set i x) j b → j ≠ i ∧ OwnAt ρ σ j b := fun j b ⟨e, d', h1, h2, h3⟩ => by
    rcases get_set h1 with ⟨rfl, rfl, _⟩ | ⟨hn, h1⟩
    · cases h2
    · rw [List.getElem?_set_ne hn] at h3
      exact ⟨Ne.symm hn, e, d', h1, h2, h3⟩
  refine ⟨by simp [r.len], r.sub, r.subf, r.live, r.keep, r.out, fun j d' e => ?_, fun j e d' h1 h2 => ?_, fun j k b h1 h2 => r.dist j k b (ownAt _ _ h1).2 (ownAt _ _ h2).2, fun j d' b h1 h2 => ?_, fun j d' b h1 h2 => ?_, fun j b o hp => ?_, fun j d' e => ?_, fun b u q => ?_⟩
  rotate_right 2
  · rcases get_set e with ⟨rfl, e, _⟩ | ⟨hn, e⟩
    · cases e
    · exact r.brL j d' e
  · obtain ⟨q1, q2, q3⟩ := r.grd b u q
    exact ⟨q1, q2, fun i w => q3 i (ownAt _ _ w).2⟩
  · rcases get_set e with ⟨rfl, e, _⟩ | ⟨hn, e⟩
    · cases e
    · rw [List.getElem?_set_ne hn]
      exact r.im j d' e
  · rcases get_set h1 with ⟨rfl, rfl, _⟩ | ⟨hn, h1⟩
    · cases h2
    · rw [List.getElem?_set_ne hn]
      exact r.own j e d' h1 h2
  · rcases get_set h1 with ⟨rfl, e, _⟩ | ⟨hn, h1⟩
    · cases e
    · rw [List.getElem?_set_ne hn] at h2
      exact r.ow j d' b h1 h2
  · rcases get_set h1 with ⟨rfl, e, _⟩ | ⟨hn, h1⟩
    · cases e
    · rw [List.getElem?_set_ne hn] at h2
      exact r.io j d' b h1 h2
  · obtain ⟨h1, e, h2, h3⟩ := r.pin j b o hp
    have hn := Ne.symm (np j b o hp)
    rw [List.getElem?_set_ne hn, List.getElem?_set_ne hn]
    exact ⟨h1, e, h2, h3⟩
/-- an own name's container is frozen for good -/
theorem R.freezeSlot (r : R c F ρ σ H Hf) (h : ρ[i]? = some (.ow d)) : ∃ Hf' v, R c F (ρ.set i (.im d)) σ H Hf' ∧ Same Hf Hf' ∧ σ[i]? = some (some v) ∧ Den c Hf' d v := by
  obtain ⟨a, q1, q2⟩ := r.own i _ d h rfl
  have h0 := r.ow i d a h q1
  have hs : setE ρ i .un = some (ρ.set i .un) := by unfold setE; rw [h]
  have r1 : R c F (ρ.set i .un) σ H Hf := by
    have := r.setUn (x := some (.ref a)) hs
    have e : σ.set i (some (.ref a)) = σ := by
      apply List.ext_getElem?
      intro j
      by_cases e : i = j
      · subst e
        rw [List.getElem?_set_self (lt_of_get q1), q1]
      · rw [List.getElem?_set_ne e]
    rw [e] at this
    exact this
  have hu : ∀ j, ¬ OwnAt (ρ.set i .un) σ j a := fun j ⟨e, d', h1, h2, h3⟩ => by
    rcases get_set h1 with ⟨rfl, rfl, _⟩ | ⟨hn, h1⟩
    · cases h2
    · exact hn (r.dist i j a ⟨_, d, h, rfl, q1⟩ ⟨e, d', h1, h2, h3⟩)
  have hg : F.G a = none := by
    cases z : F.G a with
    | none => rfl
    | some u => exact ((r.grd a u z).2.2 i ⟨_, d, h, rfl, q1⟩).elim
  obtain ⟨Hf', r2, s, dn⟩ := r1.freeze q2 h0 hu hg
  refine ⟨Hf', _, ?_, s, q1, dn⟩
  have hs2 : setE (ρ.set i .un) i (.im d) = some ((ρ.set i .un).set i (.im d)) := by
    unfold setE
    rw [List.getElem?_set_self (lt_of_get h)]
  have r3 := r2.setIm (v := .ref a) hs2 dn
  rw [List.set_set] at r3
  have e : σ.set i (some (.ref a)) = σ := by
    apply List.ext_getElem?
    intro j
    by_cases e : i = j
    · subst e
      rw [List.getElem?_set_self (lt_of_get q1), q1]
    · rw [List.getElem?_set_ne e]
  rw [e] at r3
  exact r3
/-- an own container is written -/
theorem R.mut (r : R c F ρ σ H Hf) {e e' : Ent} {d' : D} (h : ρ[i]? = some e) (hd : e.own? = some d) (hs : σ[i]? = some (some (.ref a))) (hk : (e = .ow d ∧ e' = .ow d') ∨ (e = .io d ∧ e' = .io d'))
    (w : Own c Hf (upd H a o) d' a) : R c F (ρ.set i e') σ (upd H a o) Hf := by
  obtain ⟨a', q1, q2⟩ := r.own i e d h hd
  rw [hs] at q1
  cases q1
  have hl := lt_of_get h
  have hd' : e'.own? = some d' := by rcases hk with ⟨_, rfl⟩ | ⟨_, rfl⟩ <;> rfl
  have hm : ∀ u, F.H0 a = some u → F.Mu a := fun u q => by
    rcases hk with ⟨rfl, _⟩ | ⟨rfl, _⟩
    · rw [r.ow i d a h hs] at q
      cases q
    · exact r.io i d a h hs
  have ownAt : ∀ j b, OwnAt (ρ.set i e') σ j b → OwnAt ρ σ j b := fun j b ⟨e, d', h1, h2, h3⟩ => by
    rcases get_set h1 with ⟨rfl, rfl, _⟩ | ⟨hn, h1⟩
    · exact ⟨_, d, h, hd, h3⟩
    · exact ⟨e, d', h1, h2, h3⟩
  have ne : ∀ j b, j ≠ i → OwnAt ρ σ j b → b ≠ a := fun j b hj w' z => hj (r.dist j i a (z ▸ w') ⟨_, d, h, hd, hs⟩)
  refine ⟨by simp [r.len], fun b u q => ?_, r.subf, fun b u q => ?_, fun b u q m => ?_, r.out, fun j d2 q => ?_, fun j e2 d2 h1 h2 => ?_, fun j k b h1 h2 => r.dist j k b (ownAt _ _ h1) (ownAt _ _ h2), fun j d2 b h1 h2 => ?_, fun j d2 b h1 h2 => ?_, fun j b o2 hp => ?_, fun j d2 q => ?_, fun b u q => ?_⟩
  rotate_right 2
  · rcases get_set q with ⟨rfl, q, _⟩ | ⟨hn, q⟩
    · rcases hk with ⟨_, rfl⟩ | ⟨_, rfl⟩ <;> cases q
    · exact r.brL j d2 q
  · obtain ⟨q1, q2', q3⟩ := r.grd b u q
    have hb : b ≠ a := fun z => q3 i ⟨_, d, h, hd, by rw [z]; exact hs⟩
    exact ⟨by rw [upd_ne hb]; exact q1, q2', fun k w' => q3 k (ownAt _ _ w')⟩
  · rw [upd_ne (ne_of_none q q2.1)]
    exact r.sub _ _ q
  · by_cases hb : b = a
    · subst hb
      exact ⟨o, upd_same⟩
    · rw [upd_ne hb]
      exact r.live _ _ q
  · have hb : b ≠ a := fun z => by
      subst z
      exact m (hm _ q)
    rw [upd_ne hb]
    exact r.keep _ _ q m
  · rcases get_set q with ⟨rfl, q, _⟩ | ⟨hn, q⟩
    · rcases hk with ⟨_, rfl⟩ | ⟨_, rfl⟩ <;> cases q
    · exact r.im j d2 q
  · rcases get_set h1 with ⟨rfl, rfl, _⟩ | ⟨hn, h1⟩
    · rw [hd'] at h2
      cases h2
      exact ⟨a, hs, w⟩
    · obtain ⟨b, w1, w2⟩ := r.own j e2 d2 h1 h2
      have hb := ne j b (Ne.symm hn) ⟨e2, d2, h1, h2, w1⟩
      exact ⟨b, w1, w2.keep (Same.refl _) w2.1 fun u hu => by rw [upd_ne hb]; exact hu⟩
  · rcases get_set h1 with ⟨rfl, z, _⟩ | ⟨hn, h1⟩
    · rcases hk with ⟨rfl, rfl⟩ | ⟨rfl, rfl⟩
      · exact r.ow _ d b h h2
      · cases z
    · exact r.ow j d2 b h1 h2
  · rcases get_set h1 with ⟨rfl, z, _⟩ | ⟨hn, h1⟩
    · rcases hk with ⟨rfl, rfl⟩ | ⟨rfl, rfl⟩
      · cases z
      · exact r.io _ d b h h2
    · exact r.io j d2 b h1 h2
  · obtain ⟨w1, e2, w2, w3⟩ := r.pin j b o2 hp
    refine ⟨w1, ?_⟩
    by_cases hj : i = j
    · subst hj
      rw [h] at w2
      cases w2
      refine ⟨e', List.getElem?_set_self hl, ?_⟩
      cases o2 with
      | none =>
        obtain ⟨d3, rfl⟩ := w3
        rcases hk with ⟨z, _⟩ | ⟨_, rfl⟩
        · cases z
        · exact ⟨d', rfl⟩
      | some d3 =>
        have w3 : e = pinE d3 := w3
        rcases pinE_or d3 with q | q <;> rw [q] at w3 <;> subst w3 <;> rcases hk with ⟨z, _⟩ | ⟨z, _⟩ <;> cases z
    · rw [List.getElem?_set_ne hj]
      exact ⟨e2, w2, w3⟩
/-- an object of no concern is written -/
theorem R.touch (r : R c F ρ σ H Hf) (h1 : Hf a = none) (h2 : F.H0 a = none) (h3 : ∀ i, ¬ OwnAt ρ σ i a) (h4 : F.G a = none) : R c F ρ σ (upd H a o) Hf := by
  refine ⟨r.len, fun b u q => ?_, r.subf, fun b u q => ?_, fun b u q m => ?_, r.out, r.im, fun j e2 d2 w1 w2 => ?_, r.dist, r.ow, r.io, r.pin, r.brL, fun b u q => ?_⟩
  rotate_right
  · obtain ⟨q1, q2, q3⟩ := r.grd b u q
    have hb : b ≠ a := fun z => by rw [z, h4] at q; cases q
    exact ⟨by rw [upd_ne hb]; exact q1, q2, q3⟩
  · rw [upd_ne (ne_of_none q h1)]
    exact r.sub _ _ q
  · rw [upd_ne (ne_of_none q h2)]
    exact r.live _ _ q
  · rw [upd_ne (ne_of_none q h2)]
    exact r.keep _ _ q m
  · obtain ⟨b, q1, q2⟩ := r.own j e2 d2 w1 w2
    have hb : b ≠ a := fun z => h3 j ⟨e2, d2, w1, w2, by rw [← z]; exact q1⟩
    exact ⟨b, q1, q2.keep (Same.refl _) q2.1 fun u hu => by rw [upd_ne hb]; exact hu⟩
/-- the entries told otherwise -/
theorem R.relabel {F' : Fr} {ρ' : Rho} (r : R c F ρ σ H Hf) (hl : ρ'.length = ρ.length) (e0 : F'.H0 = F.H0) (ef : F'.F0 = F.F0) (eg : F'.G = F.G)
    (hbr : ∀ (i : Nat) (d : D), ρ'[i]? = some (.br d) → ∃ a, F'.L i a (some d))
    (hk : ∀ a o, F.H0 a = some o → ¬ F'.Mu a → H a = some o)
    (him : ∀ (i : Nat) (d : D), ρ'[i]? = some (.im d) → ρ[i]? = some (.im d))
    (how : ∀ (i : Nat) (e : Ent) (d : D), ρ'[i]? = some e → e.own? = some d → ∃ e0, ρ[i]? = some e0 ∧ e0.own? = some d)
    (ho : ∀ (i : Nat) (d : D) (a : Addr), ρ'[i]? = some (.ow d) → σ[i]? = some (some (.ref a)) → F.H0 a = none)
    (hi : ∀ (i : Nat) (d : D) (a : Addr), ρ'[i]? = some (.io d) → σ[i]? = some (some (.ref a)) → F'.Mu a)
    (hp : ∀ i a o, F'.L i a o → σ[i]? = some (some (.ref a)) ∧ ∃ e, ρ'[i]? = some e ∧ match o with | none => ∃ d, e = .io d | some d => e = pinE d) : R c F' ρ' σ H Hf := by
  have oa : ∀ i a, OwnAt ρ' σ i a → OwnAt ρ σ i a := fun i a ⟨e, d, h1, h2, h3⟩ => by
    obtain ⟨e0, w1, w2⟩ := how i e d h1 h2
    exact ⟨e0, d, w1, w2, h3⟩
  refine ⟨hl.trans r.len, r.sub, by rw [ef]; exact r.subf, by rw [e0]; exact r.live, by rw [e0]; exact hk, by rw [e0, ef]; exact r.out, fun i d h => r.im i d (him i d h), fun i e d h1 h2 => ?_, fun i j a h1 h2 => r.dist i j a (oa _ _ h1) (oa _ _ h2), by rw [e0]; exact ho, hi, hp, hbr, fun b u q => ?_⟩
  rotate_right
  · rw [eg] at q
    obtain ⟨q1, q2, q3⟩ := r.grd b u q
    exact ⟨q1, q2, fun i w => q3 i (oa _ _ w)⟩
  obtain ⟨e1, w1, w2⟩ := how i e d h1 h2
  exact r.own i e1 d w1 w2
/-- own data are no hidden ones -/
theorem R.noAdr (r : R c F ρ σ H Hf) {e : Ent} (h1 : ρ[i]? = some e) (h2 : e.own? = some d) : pinE d = .br d := by
  obtain ⟨a, _, _, w⟩ := r.own i e d h1 h2
  cases d with
  | adr n => exact w.elim
  | _ => rfl
/-- the guard of one place -/
def Fr.grd (F : Fr) (a : Addr) (o : HO) : Fr := { F with G := fun b => if b = a then some o else F.G b }
theorem R.guard (r : R c F ρ σ H Hf) (h1 : H a = some o) (h2 : Hf a = none) (h3 : ∀ i, ¬ OwnAt ρ σ i a) : R c (F.grd a o) ρ σ H Hf :=
  ⟨r.len, r.sub, r.subf, r.live, r.keep, r.out, r.im, r.own, r.dist, r.ow, r.io, r.pin, r.brL, fun b u q => by
    by_cases hb : b = a
    · subst hb
      have q : (if b = b then some o else F.G b) = some u := q
      rw [if_pos rfl] at q
      cases q
      exact ⟨h1, h2, h3⟩
    · have q : (if b = a then some o else F.G b) = some u := q
      rw [if_neg hb] at q
      exact r.grd b u q⟩
theorem R.grd_at (r : R c (F.grd a o) ρ σ H Hf) : H a = some o ∧ Hf a = none ∧ ∀ i, ¬ OwnAt ρ σ i a := r.grd a o (by show (if a = a then some o else F.G a) = some o; rw [if_pos rfl])
theorem R.unguard (r : R c (F.grd a o) ρ σ H Hf) (h : F.G a = none) : R c F ρ σ H Hf :=
  ⟨r.len, r.sub, r.subf, r.live, r.keep, r.out, r.im, r.own, r.dist, r.ow, r.io, r.pin, r.brL, fun b u q => r.grd b u (by
    have hb : b ≠ a := fun z => by rw [z, h] at q; cases q
    show (if b = a then some o else F.G b) = some u
    rw [if_neg hb]
    exact q)⟩
end
end NV

/-! NV.C: expressions: the evaluator's answer is what the machine gives. -/
namespace NV
open PySem PySem.Spec PyProof.Rows L2

/-- what is wanted behind an evaluation -/
def Post {α β : Type} (c : Ct) (F : Fr) (W : WX) (σ : St) (dn : α → β → Hp → Prop) (Q : β → Hp → Prop) (Hf : Hp) : Out Rho (α × Rho) → Prop
  | .stuck => False
  | .ok (a, ρ') => ∀ b H' Hf', R c F ρ' σ H' Hf' → Same Hf Hf' → dn a b Hf' → Q b H'
  | .exc n ρ' => ∀ H' Hf' C, R c F ρ' σ H' Hf' → Same Hf Hf' → c.mg (Str.ofString n) = some (.ref C) → W (.ref C) none σ H'
/-- the canonical reading of an evaluation -/
def tvG {α β : Type} (c : Ct) (W : WX) (dn : St → α → β → Hp → Prop) (e : Rho → Out Rho (α × Rho)) : St → Hp → (β → Hp → Prop) → Prop :=
  fun σ H Q => ∃ F ρ Hf, R c F ρ σ H Hf ∧ Post c F W σ (dn σ) Q Hf (e ρ)
section
variable {α β γ δ : Type} {c : Ct} {F : Fr} {W : WX} {ρ ρ' : Rho} {σ : St} {H H' Hf Hf' : Hp} {dn : α → β → Hp → Prop} {dn2 : γ → δ → Hp → Prop} {Q : β → Hp → Prop} {Q2 : δ → Hp → Prop}
theorem Post.mono (s : Same Hf Hf') {o : Out Rho (α × Rho)} (p : Post c F W σ dn Q Hf o) : Post c F W σ dn Q Hf' o := by
  cases o with
  | stuck => exact p
  | ok a => exact fun b H' Hf2 r s2 d => p b H' Hf2 r (s.trans s2) d
  | exc n ρ' => exact fun H' Hf2 C r s2 m => p H' Hf2 C r (s.trans s2) m
theorem Post.imp {Q' : β → Hp → Prop} {o : Out Rho (α × Rho)} (p : Post c F W σ dn Q Hf o) (h : ∀ b H, Q b H → Q' b H) : Post c F W σ dn Q' Hf o := by
  cases o with
  | stuck => exact p
  | ok a => exact fun b H' Hf2 r s2 d => h _ _ (p b H' Hf2 r s2 d)
  | exc n ρ' => exact p
/-- one evaluation ahead of the rest -/
theorem step {dnS : St → α → β → Hp → Prop} {e : Rho → Out Rho (α × Rho)} {f : α × Rho → Out Rho (γ × Rho)} (r : R c F ρ σ H Hf) (p : Post c F W σ dn2 Q2 Hf ((e ρ).bind f))
    (k : ∀ a ρ' b H' Hf', R c F ρ' σ H' Hf' → Same Hf Hf' → dnS σ a b Hf' → Post c F W σ dn2 Q2 Hf' (f (a, ρ')) → Q b H') : tvG c W dnS e σ H Q := by
  refine ⟨F, ρ, Hf, r, ?_⟩
  cases h : e ρ with
  | stuck => rw [h] at p; exact p
  | ok a =>
    obtain ⟨a, ρ'⟩ := a
    rw [h] at p
    intro b H' Hf' r' s' d
    exact k a ρ' b H' Hf' r' s' d (Post.mono s' p)
  | exc n ρ' => rw [h] at p; exact p
theorem tvG.imp {dnS : St → α → β → Hp → Prop} {e : Rho → Out Rho (α × Rho)} {Q' : β → Hp → Prop} (h : tvG c W dnS e σ H Q) (k : ∀ b H, Q b H → Q' b H) : tvG c W dnS e σ H Q' := by
  obtain ⟨F, ρ, Hf, r, p⟩ := h
  exact ⟨F, ρ, Hf, r, p.imp k⟩
end
/-- values; tests; operands -/
abbrev dE (c : Ct) : St → D → V → Hp → Prop := fun _ d v Hf => Den c Hf d v
abbrev dI {α : Type} : St → α → α → Hp → Prop := fun _ a b _ => a = b
def dP (c : Ct) (m : ME) : St → Option D → V → Hp → Prop := fun σ o v Hf => match m with
  | .var i => σ[i]? = some (some v)
  | _ => ∃ d, o = some d ∧ Den c Hf d v
abbrev dL (c : Ct) : St → List D → List V → Hp → Prop := fun _ d v Hf => Dens c Hf d v
def evT (e : Ev) (ρ : Rho) : Out Rho (Bool × Rho) := (e ρ).bind fun x => match x.1 with
  | .bl b => .ok (b, x.2)
  | _ => .stuck
abbrev tv (c : Ct) (W : WX) (e : Ev) : TE := tvG c W (dE c) e
abbrev tT (c : Ct) (W : WX) (e : Ev) : TT := tvG c W dI (evT e)
abbrev tP (c : Ct) (W : WX) (m : ME) : TE := tvG c W (dP c m) (pre m (ev m))
abbrev tL (c : Ct) (W : WX) (l : List ME) : TA := tvG c W (dL c) (evs l)

theorem PE.mono {X : Cx} {e : Expr} {t t' : TE} (h : PE X e t) (k : ∀ σ H Q, t' σ H Q → t σ H Q) : PE X e t' := ⟨fun pins s σ H Q I q => h.run pins s σ H Q I (k σ H Q q)⟩
theorem PT.mono {X : Cx} {e : Expr} {t t' : TT} (h : PT X e t) (k : ∀ σ H Q, t' σ H Q → t σ H Q) : PT X e t' := ⟨fun pins s σ H Q I q => h.run pins s σ H Q I (k σ H Q q)⟩
theorem PW.mono {X : Cx} {e : Expr} {t t' : TT} (h : PW X e t) (k : ∀ σ H Q, t' σ H Q → t σ H Q) : PW X e t' := ⟨fun wh pins s σ H Q I q => h.run wh pins s σ H Q I (k σ H Q q)⟩
theorem PA.mono {X : Cx} {e : List Expr} {t t' : TA} (h : PA X e t) (k : ∀ σ H Q, t' σ H Q → t σ H Q) : PA X e t' := ⟨fun pos pins s σ H Q I q => h.run pos pins s σ H Q I (k σ H Q q)⟩

/-- e's evaluation is m -/
structure Snd (X : Cx) (W : WX) (e : Expr) (m : ME) : Prop where
  pe : PE X e (tv (ctx X) W (ev m))
  pp : PE X e (tP (ctx X) W m)
  pt : PT X e (tT (ctx X) W (ev m))
section
variable {X : Cx} {W : WX} {e a b : Expr} {m ma mb : ME} {pos : Pos}
/-- a value as a test -/
theorem pt_of (h : PE X e (tv (ctx X) W (ev m))) (he : ∀ whole, isTrue e X.env whole = (do let v ← whole; standAt e.pos; holding [v] (truthy v))) : PT X e (tT (ctx X) W (ev m)) := by
  refine PT.mono (pt_val h he) fun σ H Q ⟨F, ρ, Hf, r, p⟩ => ?_
  show tv (ctx X) W (ev m) σ H fun x H1 => ∃ c, x = .bl c ∧ Q c H1
  refine step (f := fun x => match x.1 with | .bl b => .ok (b, x.2) | _ => .stuck) r p fun d ρ' v H' Hf' r' s' dn p' => ?_
  cases d with
  | bl b => exact ⟨b, dn, p' b H' Hf' r' (Same.refl _) rfl⟩
  | _ => exact p'.elim
theorem pp_of (h : PE X e (tv (ctx X) W (ev m))) (hm : ∀ i, m ≠ .var i) : PE X e (tP (ctx X) W m) := by
  refine PE.mono h fun σ H Q ⟨F, ρ, Hf, r, p⟩ => ?_
  have e1 : pre m (ev m) ρ = (ev m ρ).bind fun x => .ok (some x.1, x.2) := by
    cases m <;> first | rfl | exact absurd rfl (hm _)
  rw [e1] at p
  refine step r p fun d ρ' v H' Hf' r' s' dn p' => p' v H' Hf' r' (Same.refl _) ?_
  cases m <;> first | exact ⟨d, rfl, dn⟩ | exact absurd rfl (hm _)
theorem Snd.of (h : PE X e (tv (ctx X) W (ev m))) (hm : ∀ i, m ≠ .var i) (he : ∀ whole, isTrue e X.env whole = (do let v ← whole; standAt e.pos; holding [v] (truthy v))) : Snd X W e m := ⟨h, pp_of h hm, pt_of h he⟩
/-- an operand looked at when all have come -/
theorem top_fin {c : Ct} {F : Fr} {ρ : Rho} {σ : St} {H Hf Hf0 : Hp} {o : Option D} {v : V} {d : D} (r : R c F ρ σ H Hf) (s : Same Hf0 Hf) (h : dP c m σ o v Hf0) (h2 : fin m o ρ = some d) : Top c Hf H d v := by
  cases m with
  | var i =>
    have h2 : peek ρ i = some d := h2
    have h : σ[i]? = some (some v) := h
    unfold peek at h2
    cases q : ρ[i]? with
    | none => rw [q] at h2; cases h2
    | some e =>
      rw [q] at h2
      have ow : ∀ d', e.own? = some d' → d' = d → Top c Hf H d v := fun d' z1 z2 => by
        subst z2
        obtain ⟨a, w1, w2⟩ := r.own i e d' q z1
        rw [h] at w1
        cases w1
        exact Top.of_own w2
      cases e with
      | un => cases h2
      | im d' =>
        cases h2
        obtain ⟨v', w1, w2⟩ := r.im i _ q
        rw [h] at w1
        cases w1
        exact Top.of_den r.sub w2
      | ow d' => cases h2; exact ow _ rfl rfl
      | io d' => cases h2; exact ow _ rfl rfl
      | br d' => cases h2; exact ow _ rfl rfl
      | hid => cases h2
  | _ =>
    obtain ⟨d', rfl, dn⟩ := h
    cases h2
    exact Top.of_den r.sub (Den.mono s _ _ dn)
/-! ### names, constants -/
theorem s_var {i : Nat} (h : PE X e (tVar i)) (he : ∀ whole, isTrue e X.env whole = (do let v ← whole; standAt e.pos; holding [v] (truthy v))) : Snd X W e (.var i) := by
  have h1 : PE X e (tv (ctx X) W (ev (.var i))) := by
    refine PE.mono h fun σ H Q ⟨F, ρ, Hf, r, p⟩ => ?_
    have p : Post (ctx X) F W σ (dE (ctx X) σ) Q Hf (evVar ρ i) := p
    unfold evVar at p
    split at p
    · rename_i d q
      obtain ⟨v, w1, w2⟩ := r.im i d q
      exact ⟨v, w1, p v H Hf r (Same.refl _) w2⟩
    · rename_i d q
      obtain ⟨Hf', v, r', s, w1, w2⟩ := r.freezeSlot q
      exact ⟨v, w1, p v H Hf' r' s w2⟩
    · exact p.elim
  refine ⟨h1, PE.mono h fun σ H Q ⟨F, ρ, Hf, r, p⟩ => ?_, pt_of h1 he⟩
  have p : Post (ctx X) F W σ (dP (ctx X) (.var i) σ) Q Hf (match peek ρ i with | some _ => .ok (none, ρ) | none => .stuck) := p
  cases q : peek ρ i with
  | none => rw [q] at p; exact p.elim
  | some d =>
    rw [q] at p
    have hv : ∃ v, σ[i]? = some (some v) := by
      unfold peek at q
      cases z : ρ[i]? with
      | none => rw [z] at q; cases q
      | some e =>
        rw [z] at q
        cases e with
        | un => cases q
        | im d' => obtain ⟨v, w, _⟩ := r.im i _ z; exact ⟨v, w⟩
        | ow d' => obtain ⟨a, w, _⟩ := r.own i _ d' z rfl; exact ⟨_, w⟩
        | io d' => obtain ⟨a, w, _⟩ := r.own i _ d' z rfl; exact ⟨_, w⟩
        | br d' => obtain ⟨a, w, _⟩ := r.own i _ d' z rfl; exact ⟨_, w⟩
        | hid => cases q
    obtain ⟨v, hv⟩ := hv
    exact ⟨v, hv, p v H Hf r (Same.refl _) hv⟩
theorem s_cst {d : D} {v : V} (h : PE X e (tC v)) (hd : ∀ H, Den (ctx X) H d v) (he : ∀ whole, isTrue e X.env whole = (do let v ← whole; standAt e.pos; holding [v] (truthy v))) : Snd X W e (.cst d) := by
  refine Snd.of (PE.mono h fun σ H Q ⟨F, ρ, Hf, r, p⟩ => ?_) (fun i z => nomatch z) he
  exact p v H Hf r (Same.refl _) (hd Hf)
theorem mk_str (x : Str) : (⟨x.cps.toList.toArray⟩ : Str) = x := by
  cases x
  simp

/-! ### argument lists -/
inductive SndL (X : Cx) (W : WX) : List Expr → List ME → Prop where
  | nil : SndL X W [] []
  | cons {e : Expr} {m : ME} {es : List Expr} {ms : List ME} (h : Snd X W e m) (hs : starEach (e :: es) X.env = (false, eval e X.env) :: starEach es X.env) (t : SndL X W es ms) : SndL X W (e :: es) (m :: ms)
theorem SndL.pa {es : List Expr} {ms : List ME} (h : SndL X W es ms) : PA X es (tL (ctx X) W ms) := by
  induction h with
  | nil =>
    refine PA.mono pa_nil fun σ H Q ⟨F, ρ, Hf, r, p⟩ => ?_
    exact p [] H Hf r (Same.refl _) rfl
  | @cons e m es ms h hs t ih =>
    refine PA.mono (pa_cons h.pe ih hs) fun σ H Q ⟨F, ρ, Hf, r, p⟩ => ?_
    have p : Post (ctx X) F W σ (dL (ctx X) σ) Q Hf ((ev m ρ).bind fun x => (evs ms x.2).bind fun y => .ok (x.1 :: y.1, y.2)) := p
    refine step r p fun d ρ1 v H1 Hf1 r1 s1 dn1 p1 => ?_
    refine step r1 p1 fun ds ρ2 vs H2 Hf2 r2 s2 dn2 p2 => ?_
    exact p2 (v :: vs) H2 Hf2 r2 (Same.refl _) ⟨v, vs, rfl, Den.mono s2 _ _ dn1, dn2⟩
theorem SndL.len {es : List Expr} {ms : List ME} (h : SndL X W es ms) : es.length = ms.length := by
  induction h with
  | nil => rfl
  | cons _ _ _ ih => simp [ih]
/-- operands -/
def dPs (c : Ct) : List ME → St → List (Option D) → List V → Hp → Prop
  | [], _, os, vs, _ => os = [] ∧ vs = []
  | m :: ms, σ, os, vs, Hf => ∃ o os' v vs', os = o :: os' ∧ vs = v :: vs' ∧ dP c m σ o v Hf ∧ dPs c ms σ os' vs' Hf
theorem dP.mono {c : Ct} {σ : St} {o : Option D} {v : V} {H H' : Hp} (s : Same H H') (h : dP c m σ o v H) : dP c m σ o v H' := by
  cases m with
  | var i => exact h
  | _ => obtain ⟨d, e, h⟩ := h; exact ⟨d, e, Den.mono s _ _ h⟩
theorem SndL.pps {es : List Expr} {ms : List ME} (h : SndL X W es ms) : PA X es (tvG (ctx X) W (dPs (ctx X) ms) (pres ms)) := by
  induction h with
  | nil =>
    refine PA.mono pa_nil fun σ H Q ⟨F, ρ, Hf, r, p⟩ => ?_
    exact p [] H Hf r (Same.refl _) ⟨rfl, rfl⟩
  | @cons e m es ms h hs t ih =>
    refine PA.mono (pa_cons h.pp ih hs) fun σ H Q ⟨F, ρ, Hf, r, p⟩ => ?_
    have p : Post (ctx X) F W σ (dPs (ctx X) (m :: ms) σ) Q Hf ((pre m (ev m) ρ).bind fun x => (pres ms x.2).bind fun y => .ok (x.1 :: y.1, y.2)) := p
    refine step r p fun d ρ1 v H1 Hf1 r1 s1 dn1 p1 => ?_
    refine step r1 p1 fun ds ρ2 vs H2 Hf2 r2 s2 dn2 p2 => ?_
    exact p2 (v :: vs) H2 Hf2 r2 (Same.refl _) ⟨d, ds, v, vs, rfl, rfl, dP.mono s2 dn1, dn2⟩
inductive Tops (c : Ct) (Hf H : Hp) : List D → List V → Prop where
  | nil : Tops c Hf H [] []
  | cons {d : D} {v : V} {ds : List D} {vs : List V} (h : Top c Hf H d v) (t : Tops c Hf H ds vs) : Tops c Hf H (d :: ds) (v :: vs)
theorem tops_finL {c : Ct} {F : Fr} {ρ : Rho} {σ : St} {H Hf Hf0 : Hp} (r : R c F ρ σ H Hf) (s : Same Hf0 Hf) : ∀ {ms : List ME} {os : List (Option D)} {vs : List V} {ds : List D}, dPs c ms σ os vs Hf0 → finL ms os ρ = some ds → Tops c Hf H ds vs
  | [], os, vs, ds, h, e => by
    obtain ⟨rfl, rfl⟩ := h
    cases e
    exact .nil
  | m :: ms, os, vs, ds, h, e => by
    obtain ⟨o, os', v, vs', rfl, rfl, h1, h2⟩ := h
    unfold finL at e
    cases q : fin m o ρ with
    | none => rw [q] at e; cases e
    | some d =>
      cases q2 : finL ms os' ρ with
      | none => rw [q, q2] at e; cases e
      | some ds' =>
        rw [q, q2] at e
        cases e
        exact .cons (top_fin r s h1 q) (tops_finL r s h2 q2)

/-! ### displays -/
theorem s_tup {es : List Expr} {ms : List ME} {k : Nat} (h : SndL X W es ms) (hl : ms.length ≤ sizeLine) : Snd X W (.Tuple es k pos) (.tup ms) := by
  refine Snd.of (PE.mono (pe_tup h.pa) fun σ H Q ⟨F, ρ, Hf, r, p⟩ => ?_) (fun i z => nomatch z) (fun _ => rfl)
  have p : Post (ctx X) F W σ (dE (ctx X) σ) Q Hf ((evs ms ρ).bind fun x => .ok (.tup x.1, x.2)) := p
  have hlen : ∀ ms ρ ds ρ', evs ms ρ = .ok (ds, ρ') → ds.length = ms.length := by
    intro ms
    induction ms with
    | nil => intro ρ ds ρ' h; cases h; rfl
    | cons m ms ih =>
      intro ρ ds ρ' h
      have h : ((ev m ρ).bind fun x => (evs ms x.2).bind fun y => .ok (x.1 :: y.1, y.2)) = .ok (ds, ρ') := h
      cases q : ev m ρ with
      | stuck => rw [q] at h; cases h
      | exc _ _ => rw [q] at h; cases h
      | ok x =>
        rw [q] at h
        have h : ((evs ms x.2).bind fun y => .ok (x.1 :: y.1, y.2)) = (.ok (ds, ρ') : Out Rho (List D × Rho)) := h
        cases q2 : evs ms x.2 with
        | stuck => rw [q2] at h; cases h
        | exc _ _ => rw [q2] at h; cases h
        | ok y =>
          rw [q2] at h
          cases h
          simp [ih x.2 y.1 y.2 q2]
  refine ⟨F, ρ, Hf, r, ?_⟩
  cases q : evs ms ρ with
  | stuck => rw [q] at p; exact p.elim
  | exc n ρ' => rw [q] at p; exact p
  | ok a =>
    obtain ⟨ds, ρ'⟩ := a
    rw [q] at p
    intro vs H' Hf' r' s' dn
    have e1 := hlen _ _ _ _ q
    have e2 := Dens.length dn
    refine ⟨by omega, fun a ha => ?_⟩
    obtain ⟨r2, s2⟩ := r'.alloc ha (.tup vs)
    exact p (.ref a) _ _ r2 (s'.trans s2) ⟨a, vs, rfl, .inl (.inl upd_same), Dens.mono s2 _ _ dn⟩
end
end NV

/-! NV.D: operators, items, slices, truth. -/
namespace NV
open PySem PySem.Spec PyProof.Rows L2

theorem szl_eq : szl = sizeLine := by rw [sizeLine_eq]; rfl
/-! ### new containers -/
def PostF (c : Ct) (F : Fr) (W : WX) (σ : St) (Q : VK) (Hf : Hp) : Res → Prop
  | .stuck => False
  | .ok (d, ρ') => ∀ a H' Hf', R c F ρ' σ H' Hf' → Same Hf Hf' → Own c Hf' H' d a → F.H0 a = none → (∀ i, ¬ OwnAt ρ' σ i a) → F.G a = none → Q (.ref a) H'
  | .exc n ρ' => ∀ H' Hf' C, R c F ρ' σ H' Hf' → Same Hf Hf' → c.mg (Str.ofString n) = some (.ref C) → W (.ref C) none σ H'
def tvF (c : Ct) (W : WX) (e : Ev) : TE := fun σ H Q => ∃ F ρ Hf, R c F ρ σ H Hf ∧ PostF c F W σ Q Hf (e ρ)
section
variable {c : Ct} {F : Fr} {W : WX} {ρ ρ' : Rho} {σ : St} {H H' Hf Hf' : Hp} {Q : VK}
theorem PostF.of {o : Res} (p : Post c F W σ (dE c σ) Q Hf o) : PostF c F W σ Q Hf o := by
  cases o with
  | stuck => exact p
  | exc n ρ' => exact p
  | ok x =>
    obtain ⟨d, ρ'⟩ := x
    intro a H' Hf' r s w h0 hu hg
    obtain ⟨Hf2, r2, s2, dn⟩ := r.freeze w h0 hu hg
    exact p _ _ _ r2 (s.trans s2) dn
theorem PostF.mono (s : Same Hf Hf') {o : Res} (p : PostF c F W σ Q Hf o) : PostF c F W σ Q Hf' o := by
  cases o with
  | stuck => exact p
  | ok a => exact fun b H' Hf2 r s2 d => p b H' Hf2 r (s.trans s2) d
  | exc n ρ' => exact fun H' Hf2 C r s2 m => p H' Hf2 C r (s.trans s2) m
theorem tvF.of {e : Ev} (h : tv c W e σ H Q) : tvF c W e σ H Q := by
  obtain ⟨F, ρ, Hf, r, p⟩ := h
  exact ⟨F, ρ, Hf, r, PostF.of p⟩
theorem stepF {α β : Type} {dnS : St → α → β → Hp → Prop} {Q' : β → Hp → Prop} {e : Rho → Out Rho (α × Rho)} {f : α × Rho → Res} (r : R c F ρ σ H Hf) (p : PostF c F W σ Q Hf ((e ρ).bind f))
    (k : ∀ a ρ' b H' Hf', R c F ρ' σ H' Hf' → Same Hf Hf' → dnS σ a b Hf' → PostF c F W σ Q Hf' (f (a, ρ')) → Q' b H') : tvG c W dnS e σ H Q' := by
  refine ⟨F, ρ, Hf, r, ?_⟩
  cases h : e ρ with
  | stuck => rw [h] at p; exact p
  | ok a =>
    obtain ⟨a, ρ'⟩ := a
    rw [h] at p
    intro b H' Hf' r' s' d
    exact k a ρ' b H' Hf' r' s' d (PostF.mono s' p)
  | exc n ρ' => rw [h] at p; exact p
/-- a new object handed out as an own container -/
theorem PostF.new {d : D} {o : HO} {a : Addr} (r : R c F ρ σ H Hf) (p : PostF c F W σ Q Hf (.ok (d, ρ))) (ha : H a = none) (w : Own c Hf (upd H a o) d a) : Q (.ref a) (upd H a o) := by
  obtain ⟨f1, f2⟩ := r.free ha
  refine p a _ _ (r.allocOwn ha o) (Same.refl _) w f2 (fun i h => r.own_ne h ha rfl) ?_
  cases z : F.G a with
  | none => rfl
  | some u =>
    have := (r.grd a u z).1
    rw [ha] at this
    cases this
end
/-- e makes a new container, m -/
structure SndF (X : Cx) (W : WX) (e : Expr) (m : ME) : Prop where
  pf : PE X e (tvF (ctx X) W (ev m))
section
variable {X : Cx} {W : WX} {e a b : Expr} {m ma mb : ME} {pos : Pos}
theorem SndF.snd (h : SndF X W e m) (hm : ∀ i, m ≠ .var i) (he : ∀ whole, isTrue e X.env whole = (do let v ← whole; standAt e.pos; holding [v] (truthy v))) : Snd X W e m :=
  Snd.of (PE.mono h.pf fun σ H Q q => tvF.of q) hm he
theorem evs_len : ∀ {ms : List ME} {ρ ds ρ'}, evs ms ρ = .ok (ds, ρ') → ds.length = ms.length
  | [], ρ, ds, ρ', h => by
    cases h
    rfl
  | m :: ms, ρ, ds, ρ', h => by
    have h : ((ev m ρ).bind fun x => (evs ms x.2).bind fun y => .ok (x.1 :: y.1, y.2)) = .ok (ds, ρ') := h
    cases q : ev m ρ with
    | stuck => rw [q] at h; cases h
    | exc _ _ => rw [q] at h; cases h
    | ok x =>
      rw [q] at h
      have h : ((evs ms x.2).bind fun y => .ok (x.1 :: y.1, y.2)) = (.ok (ds, ρ') : Out Rho (List D × Rho)) := h
      cases q2 : evs ms x.2 with
      | stuck => rw [q2] at h; cases h
      | exc _ _ => rw [q2] at h; cases h
      | ok y =>
        rw [q2] at h
        cases h
        simp [evs_len (ds := y.1) (ρ' := y.2) q2]
theorem s_lst {es : List Expr} {ms : List ME} (h : SndL X W es ms) (hl : ms.length ≤ sizeLine) : SndF X W (.List es pos) (.lst ms) := by
  refine ⟨PE.mono (pe_lst h.pa) fun σ H Q ⟨F, ρ, Hf, r, p⟩ => ?_⟩
  have p : PostF (ctx X) F W σ Q Hf ((evs ms ρ).bind fun x => .ok (.lst x.1, x.2)) := p
  refine ⟨F, ρ, Hf, r, ?_⟩
  cases q : evs ms ρ with
  | stuck => rw [q] at p; exact p.elim
  | exc n ρ' => rw [q] at p; exact p
  | ok a =>
    obtain ⟨ds, ρ'⟩ := a
    rw [q] at p
    intro vs H' Hf' r' s' dn
    have e1 := evs_len q
    have e2 := Dens.length dn
    refine ⟨by omega, fun a ha => ?_⟩
    exact PostF.new r' (PostF.mono s' p) ha ⟨(r'.free ha).1, vs, upd_same, dn⟩
theorem dHO_new {s : Shared} {H : Hp} {c : Ct} (hb : s.heap.objs.size ≠ sysModules) :
    ObjOk c.P c.w (upd H s.heap.objs.size (dHO c s.heap.objs.size [])) (s.heap.push { cls := .type "dict", data := .dict #[] }) s.heap.objs.size (dHO c s.heap.objs.size []) := by
  have g : (s.heap.push { cls := .type "dict", data := .dict #[] }).get? s.heap.objs.size = some { cls := .type "dict", data := .dict #[] } := Heap.get?_push_size _ rfl
  refine ⟨⟨by simp [hb], Nat.zero_le _, List.nodup_nil, [], .nil, _, #[], 0, g, ⟨rfl, rfl, rfl⟩, rfl, rfl⟩, ⟨_, g⟩, ?_⟩
  rintro h1 h2 ⟨z1, z2, z3, ys, z4, o, es, ep, z5, z6⟩ k
  exact ⟨z1, z2, z3, ys, z4, o, es, ep, k _ z5, z6⟩
theorem dHO_stay (c : Ct) (a : Addr) (xs : List (NestedKey × Addr × V)) (h1 h2 : Heap) (k : ∀ o, h1.get? a = some o → h2.get? a = some o) :
    ((a == sysModules) = false ∧ xs.length ≤ sizeLine ∧ (xs.map (·.1)).Nodup ∧ ∃ ys : List (NestedKey × Addr × Value), Paired (fun (p : NestedKey × Addr × V) (q : NestedKey × Addr × Value) => p.1 = q.1 ∧ p.2.1 = q.2.1 ∧ RelV p.2.2 q.2.2) xs ys ∧
    ∃ o es ep, h1.get? a = some o ∧ o.ExactDict ∧ o.data = .dict es ep ∧ es.toList = ys.map (entryOfKey (nestedKind c.P c.w))) →
    ((a == sysModules) = false ∧ xs.length ≤ sizeLine ∧ (xs.map (·.1)).Nodup ∧ ∃ ys : List (NestedKey × Addr × Value), Paired (fun (p : NestedKey × Addr × V) (q : NestedKey × Addr × Value) => p.1 = q.1 ∧ p.2.1 = q.2.1 ∧ RelV p.2.2 q.2.2) xs ys ∧
    ∃ o es ep, h2.get? a = some o ∧ o.ExactDict ∧ o.data = .dict es ep ∧ es.toList = ys.map (entryOfKey (nestedKind c.P c.w))) := by
  rintro ⟨z1, z2, z3, ys, z4, o, es, ep, z5, z6⟩
  exact ⟨z1, z2, z3, ys, z4, o, es, ep, k _ z5, z6⟩
theorem s_emp : SndF X W (.Dict [] [] pos) .emp := by
  refine ⟨⟨fun pins s σ H Q I ⟨F, ρ, Hf, r, p⟩ => ?_⟩⟩
  have ha := I.hok.fresh (Nat.le_refl s.heap.objs.size)
  refine wpAny_Dict_empty ⟨.ref s.heap.objs.size, _, I.laid (a := s.heap.objs.size) (o := dHO (ctx X) s.heap.objs.size []) (t' := s.toks) (fun _ _ q => Heap.get?_push_of_some _ q) (Nat.le_refl _) (dHO_new (c := ctx X) ?_), rfl, ?_⟩
  · exact Ne.symm (Nat.ne_of_lt I.big)
  · exact PostF.new r p ha ⟨(r.free ha).1, [], upd_same, ⟨rfl, rfl⟩, rfl, rfl⟩

/-! ### operators by their data -/
/-- an operation on data, by values -/
def rOp (c : Ct) (W : WX) (f : D → D → Option D) : R2 := fun x y H Q => ∃ F ρ σ Hf p q, R c F ρ σ H Hf ∧ Top c Hf H p x ∧ Top c Hf H q y ∧ Post c F W σ (dE c σ) Q Hf (opt (f p q) ρ)
theorem OpR.imp {f : Value → Value → Sem Value} {r r' : R2} (h : OpR X f r) (k : ∀ x y H Q, r' x y H Q → r x y H Q) : OpR X f r' := fun pins s σ H x y v u Q I rx ry q => h pins s σ H x y v u Q I rx ry (k _ _ _ _ q)
theorem s_op {ea eb : Expr} {o : Op} {op : Operator} (ha : Snd X W ea ma) (hb : Snd X W eb mb) (ho : OpR X (binaryOp op) (rOp (ctx X) W (binD o))) : Snd X W (.BinOp ea op eb pos) (.bin o ma mb) := by
  refine Snd.of (PE.mono (pe_op ho ha.pp hb.pp) fun σ H Q ⟨F, ρ, Hf, r, p⟩ => ?_) (fun i z => nomatch z) (fun _ => rfl)
  have p : Post (ctx X) F W σ (dE (ctx X) σ) Q Hf ((pre ma (ev ma) ρ).bind fun x => (pre mb (ev mb) x.2).bind fun y => match fin ma x.1 y.2, fin mb y.1 y.2 with
    | some p, some q => opt (binD o p q) y.2
    | _, _ => .stuck) := p
  refine step r p fun d ρ1 v H1 Hf1 r1 s1 dn1 p1 => ?_
  refine step r1 p1 fun d2 ρ2 v2 H2 Hf2 r2 s2 dn2 p2 => ?_
  dsimp only at p2
  split at p2
  · rename_i x y e1 e2
    exact ⟨F, ρ2, σ, Hf2, x, y, r2, top_fin r2 s2 dn1 e1, top_fin r2 (Same.refl _) dn2 e2, p2⟩
  · exact p2.elim
theorem s_cmp {ea eb : Expr} {o : Cm} {op : CmpOp} (ha : Snd X W ea ma) (hb : Snd X W eb mb) (hm : behindInMarks op eb = false) (ho : OpR X (compareOp op) (rOp (ctx X) W (cmpD o))) : Snd X W (.Compare ea [op] [eb] pos) (.cmp o ma mb) := by
  have key : ∀ {α β : Type} {dn2 : α → β → Hp → Prop} {Q2 : β → Hp → Prop} {Q' : VK} {σ H F ρ Hf} {f : D × Rho → Out Rho (α × Rho)}, R (ctx X) F ρ σ H Hf → Post (ctx X) F W σ dn2 Q2 Hf ((ev (.cmp o ma mb) ρ).bind f) →
      (∀ Hf', Same Hf Hf' → ∀ {ρ' d}, Post (ctx X) F W σ dn2 Q2 Hf' ((opt d ρ').bind f) → Post (ctx X) F W σ (dE (ctx X) σ) Q' Hf' (opt d ρ')) → tOp (rOp (ctx X) W (cmpD o)) (tP (ctx X) W ma) (tP (ctx X) W mb) σ H Q' := by
    intro α β dn2 Q2 Q' σ H F ρ Hf f r p k
    have p : Post (ctx X) F W σ dn2 Q2 Hf (((pre ma (ev ma) ρ).bind fun x => (pre mb (ev mb) x.2).bind fun y => match fin ma x.1 y.2, fin mb y.1 y.2 with
      | some p, some q => opt (cmpD o p q) y.2
      | _, _ => .stuck).bind f) := p
    have assoc : ∀ {α β γ : Type} (o : Out Rho α) (g : α → Out Rho β) (h : β → Out Rho γ), (o.bind g).bind h = o.bind fun x => (g x).bind h := fun o g h => by cases o <;> rfl
    rw [assoc] at p
    refine step r p fun d ρ1 v H1 Hf1 r1 s1 dn1 p1 => ?_
    rw [assoc] at p1
    refine step r1 p1 fun d2 ρ2 v2 H2 Hf2 r2 s2 dn2 p2 => ?_
    dsimp only at p2
    split at p2
    · rename_i x y e1 e2
      exact ⟨F, ρ2, σ, Hf2, x, y, r2, top_fin r2 s2 dn1 e1, top_fin r2 (Same.refl _) dn2 e2, k _ (s1.trans s2) p2⟩
    · exact p2.elim
  have bid : ∀ {α : Type} (o : Out Rho α), o.bind .ok = o := fun o => by cases o <;> rfl
  have h1 : PE X (.Compare ea [op] [eb] pos) (tv (ctx X) W (ev (.cmp o ma mb))) := by
    refine PE.mono (pe_cmpR ho ha.pp hb.pp hm) fun σ H Q ⟨F, ρ, Hf, r, p⟩ => ?_
    refine key (f := .ok) r (by rw [bid]; exact p) fun Hf' s ρ' d p' => ?_
    rw [bid] at p'
    exact p'
  refine ⟨h1, pp_of h1 (fun i z => nomatch z), ?_⟩
  refine PT.mono (pt_cmpR ho ha.pp hb.pp hm) fun σ H Q ⟨F, ρ, Hf, r, p⟩ => ?_
  refine key (f := fun x => match x.1 with | .bl b => .ok (b, x.2) | _ => .stuck) r p fun Hf' s ρ' d p' => ?_
  cases d with
  | none => exact p'.elim
  | some d =>
    cases d with
    | bl b =>
      intro v H' Hf2 r2 s2 dn
      exact ⟨b, dn, p' b H' Hf2 r2 s2 rfl⟩
    | _ => exact p'.elim
theorem op_addX : OpR X (binaryOp .Add) (rOp (ctx X) W (binD .add)) := by
  intro pins s σ0 H x y v u Q I rx ry ⟨F, ρ, σ, Hf, p, q, r, tp, tq, po⟩
  replace po : Post (ctx X) F W σ (dE (ctx X) σ) Q Hf (opt (addD p q) ρ) := po
  unfold addD at po
  split at po
  · rename_i i j
    exact op_add pins s σ0 H x y v u Q I rx ry ⟨i, j, tp, tq, po _ _ _ r (Same.refl _) rfl⟩
  · rename_i i j
    obtain ⟨rfl, g1⟩ := (show Den _ _ _ _ from tp)
    obtain ⟨rfl, g2⟩ := (show Den _ _ _ _ from tq)
    split at po
    · rename_i hz
      have hz : i.length + j.length ≤ 16777216 := hz
      refine op_add_str pins s σ0 H _ _ v u Q I rx ry ⟨_, _, rfl, rfl, by rw [sizeLine_eq]; exact hz, po _ _ _ r (Same.refl _) ⟨?_, ?_, fun z hz => ?_⟩⟩
      · show V.str ⟨_⟩ = V.str ⟨_⟩
        simp
      · rw [List.length_append]; exact hz
      · rcases List.mem_append.mp hz with h | h
        · exact g1.2 z h
        · exact g2.2 z h
    · exact po.elim
  · rename_i i j
    obtain ⟨a, vs, rfl, h1, h2⟩ := tp
    obtain ⟨b, ws, rfl, h3, h4⟩ := tq
    split at po
    · rename_i hz
      rw [Dens.length h2, Dens.length h4, szl_eq] at hz
      refine op_cat pins s σ0 H _ _ v u Q I rx ry ⟨a, b, vs, ws, rfl, rfl, h1, h3, hz, fun t ht => ?_⟩
      obtain ⟨r2, s2⟩ := r.alloc ht (.lst (vs ++ ws))
      exact po _ _ _ r2 s2 ⟨t, _, rfl, upd_same, Dens.append (Dens.mono s2 _ _ h2) (Dens.mono s2 _ _ h4)⟩
    · exact po.elim
  · rename_i i j
    obtain ⟨a, vs, rfl, h1, h2⟩ := (show Den _ _ _ _ from tp)
    obtain ⟨b, ws, rfl, h3, h4⟩ := (show Den _ _ _ _ from tq)
    split at po
    · rename_i hz
      rw [Dens.length h2, Dens.length h4, szl_eq] at hz
      refine op_catA pins s σ0 H _ _ v u Q I rx ry ⟨a, b, vs, ws, rfl, rfl, Same.seqT r.sub h1, Same.seqT r.sub h3, hz, fun e => ?_, fun e1 e2 => ?_, fun _ _ t ht => ?_⟩
      · subst e
        have e := Dens.length h2
        have e : i = [] := List.length_eq_zero_iff.mp e
        subst e
        exact po _ _ _ r (Same.refl _) ⟨b, ws, rfl, h3, h4⟩
      · subst e2
        have e := Dens.length h4
        have e : j = [] := List.length_eq_zero_iff.mp e
        subst e
        rw [List.append_nil] at po
        exact po _ _ _ r (Same.refl _) ⟨a, vs, rfl, h1, h2⟩
      · obtain ⟨r2, s2⟩ := r.alloc ht (.tup (vs ++ ws))
        exact po _ _ _ r2 s2 ⟨t, _, rfl, .inl (.inl upd_same), Dens.append (Dens.mono s2 _ _ h2) (Dens.mono s2 _ _ h4)⟩
    · exact po.elim
  · exact po.elim
theorem op_subX : OpR X (binaryOp .Sub) (rOp (ctx X) W (binD .sub)) := by
  intro pins s σ0 H x y v u Q I rx ry ⟨F, ρ, σ, Hf, p, q, r, tp, tq, po⟩
  replace po : Post (ctx X) F W σ (dE (ctx X) σ) Q Hf (opt (subD p q) ρ) := po
  unfold subD at po
  split at po
  · rename_i i j
    exact op_sub pins s σ0 H x y v u Q I rx ry ⟨i, j, tp, tq, po _ _ _ r (Same.refl _) rfl⟩
  · exact po.elim
theorem op_mulX : OpR X (binaryOp .Mult) (rOp (ctx X) W (binD .mul)) := by
  intro pins s σ0 H x y v u Q I rx ry ⟨F, ρ, σ, Hf, p, q, r, tp, tq, po⟩
  replace po : Post (ctx X) F W σ (dE (ctx X) σ) Q Hf (opt (mulD p q) ρ) := po
  unfold mulD at po
  split at po
  · rename_i i j
    split at po
    · rename_i hc
      have hc : CMul i j := by
        rcases hc with h | h
        · exact .inl ⟨by omega, by omega⟩
        · exact .inr ⟨by omega, by omega⟩
      exact op_mul pins s σ0 H x y v u Q I rx ry ⟨i, j, tp, tq, hc, po _ _ _ r (Same.refl _) rfl⟩
    · exact po.elim
  · exact po.elim
theorem op_divX : OpR X (binaryOp .FloorDiv) (rOp (ctx X) W (binD .div)) := by
  intro pins s σ0 H x y v u Q I rx ry ⟨F, ρ, σ, Hf, p, q, r, tp, tq, po⟩
  replace po : Post (ctx X) F W σ (dE (ctx X) σ) Q Hf (opt (divD p q) ρ) := po
  unfold divD at po
  split at po
  · rename_i i j
    split at po
    · rename_i hc
      exact op_fdiv pins s σ0 H x y v u Q I rx ry ⟨i, j, tp, tq, hc, po _ _ _ r (Same.refl _) rfl⟩
    · exact po.elim
  · exact po.elim
theorem op_modX : OpR X (binaryOp .Mod) (rOp (ctx X) W (binD .mod)) := by
  intro pins s σ0 H x y v u Q I rx ry ⟨F, ρ, σ, Hf, p, q, r, tp, tq, po⟩
  replace po : Post (ctx X) F W σ (dE (ctx X) σ) Q Hf (opt (modD p q) ρ) := po
  unfold modD at po
  split at po
  · rename_i i j
    split at po
    · rename_i hc
      exact op_mod pins s σ0 H x y v u Q I rx ry ⟨i, j, tp, tq, hc, po _ _ _ r (Same.refl _) rfl⟩
    · exact po.elim
  · exact po.elim
end
end NV

/-! NV.E: equality, membership, dicts read. -/
namespace NV
open PySem PySem.Spec PyProof.Rows L2

mutual
def py : D → PyData
  | .non => .none | .bl b => .bool b | .int i => .int i | .str s => .str ⟨s.toArray⟩
  | .tup l => .tuple (pyL l) | .lst l => .list (pyL l)
  | .dic _ _ => .none | .obj _ _ => .none | .scr _ => .none | .adr _ => .none
def pyL : List D → List PyData
  | [] => []
  | x :: l => py x :: pyL l
end
mutual
theorem py_eqv : ∀ a b : D, a.dep < 1000 → b.dep < 1000 → PyData.eqv (py a) (py b) = eqD a b
  | .non, b, h1, h2 => by cases b <;> simp_all [py, eqD, PyData.eqv, D.dep]
  | .bl x, b, h1, h2 => by cases b <;> simp_all [py, eqD, PyData.eqv, D.dep]
  | .int x, b, h1, h2 => by cases b <;> simp_all [py, eqD, PyData.eqv, D.dep]
  | .str x, b, h1, h2 => by
    cases b <;> simp_all [py, eqD, PyData.eqv, D.dep]
    exact Bool.eq_iff_iff.mpr (by simp)
  | .tup l, b, h1, h2 => by
    have h1 : D.depL l + 1 < 1000 := by simpa [D.dep] using h1
    cases b with
    | tup l' =>
      have h2 : D.depL l' + 1 < 1000 := by simpa [D.dep] using h2
      simp [py, eqD, PyData.eqv, py_eqvL l l' (by omega) (by omega)]
    | _ => simp_all [py, eqD, PyData.eqv, D.dep]
  | .lst l, b, h1, h2 => by
    have h1 : D.depL l + 1 < 1000 := by simpa [D.dep] using h1
    cases b with
    | lst l' =>
      have h2 : D.depL l' + 1 < 1000 := by simpa [D.dep] using h2
      simp [py, eqD, PyData.eqv, py_eqvL l l' (by omega) (by omega)]
    | _ => simp_all [py, eqD, PyData.eqv, D.dep]
  | .dic _ _, b, h1, h2 => by simp [D.dep] at h1
  | .obj _ _, b, h1, h2 => by simp [D.dep] at h1
  | .scr _, b, h1, h2 => by simp [D.dep] at h1
  | .adr _, b, h1, h2 => by simp [D.dep] at h1
termination_by structural a => a
theorem py_eqvL : ∀ a b : List D, D.depL a < 1000 → D.depL b < 1000 → PyData.eqvAll (pyL a) (pyL b) = eqL a b
  | [], b, h1, h2 => by cases b <;> simp [pyL, eqL, PyData.eqvAll]
  | x :: a, b, h1, h2 => by
    have h1 : max x.dep (D.depL a) < 1000 := by simpa [D.depL] using h1
    cases b with
    | nil => simp [pyL, eqL, PyData.eqvAll]
    | cons y b =>
      have h2 : max y.dep (D.depL b) < 1000 := by simpa [D.depL] using h2
      simp [pyL, eqL, PyData.eqvAll, py_eqv x y (by omega) (by omega), py_eqvL a b (by omega) (by omega)]
termination_by structural a => a
end
mutual
theorem py_depth : ∀ a : D, a.dep < 1000 → (py a).depth = a.dep
  | .non, _ => by simp [py, PyData.depth, D.dep]
  | .bl _, _ => by simp [py, PyData.depth, D.dep]
  | .int _, _ => by simp [py, PyData.depth, D.dep]
  | .str _, _ => by simp [py, PyData.depth, D.dep]
  | .tup l, h => by
    have h : D.depL l + 1 < 1000 := by simpa [D.dep] using h
    simp [py, PyData.depth, D.dep, py_depthL l (by omega)]
  | .lst l, h => by
    have h : D.depL l + 1 < 1000 := by simpa [D.dep] using h
    simp [py, PyData.depth, D.dep, py_depthL l (by omega)]
  | .dic _ _, h => by simp [D.dep] at h
  | .obj _ _, h => by simp [D.dep] at h
  | .scr _, h => by simp [D.dep] at h
  | .adr _, h => by simp [D.dep] at h
termination_by structural a => a
theorem py_depthL : ∀ a : List D, D.depL a < 1000 → PyData.depthAll (pyL a) = D.depL a
  | [], _ => by simp [pyL, PyData.depthAll, D.depL]
  | x :: a, h => by
    have h : max x.dep (D.depL a) < 1000 := by simpa [D.depL] using h
    simp [pyL, PyData.depthAll, D.depL, py_depth x (by omega), py_depthL a (by omega)]
termination_by structural a => a
end
mutual
theorem den_dp {c : Ct} {Hf H : Hp} (s : Same Hf H) : ∀ (d : D) (v : V), d.dep < 1000 → Den c Hf d v → Dp c.K H v (py d) ∧ (py d).canLay0 = true
  | .non, _, _, h => by cases h; exact ⟨.non, rfl⟩
  | .bl b, _, _, h => by cases h; exact ⟨.bl b, rfl⟩
  | .int i, _, _, h => by cases h; exact ⟨.int i, rfl⟩
  | .str x, _, _, ⟨h, g⟩ => by
    cases h
    refine ⟨.str _, ?_⟩
    show PyData.strOk _ = true
    unfold PyData.strOk
    simpa [Array.all_eq_true_iff_forall_mem] using g.2
  | .tup l, _, hd, ⟨a, vs, e, h1, h2⟩ => by
    subst e
    have hd : D.depL l + 1 < 1000 := by simpa [D.dep] using hd
    obtain ⟨w1, w2⟩ := dens_dp s l vs (by omega) h2
    exact ⟨.tup (Same.seqT s h1) w1, w2⟩
  | .lst l, _, hd, ⟨a, vs, e, h1, h2⟩ => by
    subst e
    have hd : D.depL l + 1 < 1000 := by simpa [D.dep] using hd
    obtain ⟨w1, w2⟩ := dens_dp s l vs (by omega) h2
    exact ⟨.lst (SqL.of (s _ _ h1)) w1, w2⟩
  | .dic _ _, _, h, _ => by simp [D.dep] at h
  | .obj _ _, _, h, _ => by simp [D.dep] at h
  | .scr _, _, h, _ => by simp [D.dep] at h
  | .adr _, _, h, _ => by simp [D.dep] at h
termination_by structural d => d
theorem dens_dp {c : Ct} {Hf H : Hp} (s : Same Hf H) : ∀ (ds : List D) (vs : List V), D.depL ds < 1000 → Dens c Hf ds vs → DpAll c.K H vs (pyL ds) ∧ PyData.canLayAll0 (pyL ds) = true
  | [], _, _, h => by cases h; exact ⟨.nil, rfl⟩
  | d :: ds, _, hd, ⟨v, r, e, h1, h2⟩ => by
    subst e
    have hd : max d.dep (D.depL ds) < 1000 := by simpa [D.depL] using hd
    obtain ⟨w1, w2⟩ := den_dp s d v (by omega) h1
    obtain ⟨w3, w4⟩ := dens_dp s ds r (by omega) h2
    exact ⟨.cons w1 w3, by simp [pyL, PyData.canLayAll0, w2, w4]⟩
termination_by structural ds => ds
end
theorem top_dp {c : Ct} {F : Fr} {ρ : Rho} {σ : St} {Hf H : Hp} (r : R c F ρ σ H Hf) {d : D} {v : V} (hd : d.dep ≤ 64) (h : Top c Hf H d v) : Dp c.K H v (py d) ∧ SeqAt.shaped (py d) = true := by
  have sh : (py d).canLay0 = true → SeqAt.shaped (py d) = true := fun h => by
    unfold SeqAt.shaped
    rw [h, py_depth d (by omega)]
    simpa using hd
  cases d with
  | lst l =>
    obtain ⟨a, vs, rfl, h1, h2⟩ := h
    have hd' : D.depL l + 1 ≤ 64 := by simpa [D.dep] using hd
    obtain ⟨w1, w2⟩ := dens_dp r.sub l vs (by omega) h2
    exact ⟨.lst (SqL.of h1) w1, sh w2⟩
  | dic ks ds => simp [D.dep] at hd
  | obj n l => simp [D.dep] at hd
  | scr l => simp [D.dep] at hd
  | adr l => simp [D.dep] at hd
  | _ =>
    obtain ⟨w1, w2⟩ := den_dp r.sub _ _ (by omega) h
    exact ⟨w1, sh w2⟩

/-! ### keys -/
mutual
theorem keyOf_inj : ∀ (a b : D) (k : NestedKey), keyOf a = some k → keyOf b = some k → a = b
  | .non, b, k, h1, h2 => by
    cases b <;> simp_all [keyOf]
    · subst h1; cases h2
    · subst h1; cases h2
    · obtain ⟨x, _, e⟩ := h2; subst h1; cases e
  | .int i, b, k, h1, h2 => by
    cases b <;> simp_all [keyOf]
    · subst h1; cases h2
    · subst h1; injection h2 with h2; exact h2.symm
    · subst h1; cases h2
    · obtain ⟨x, _, e⟩ := h2; subst h1; cases e
  | .str s, b, k, h1, h2 => by
    cases b <;> simp_all [keyOf]
    · subst h1; cases h2
    · subst h1; cases h2
    · subst h1
      injection h2 with h2
      injection h2 with h2
      simpa using h2.symm
    · obtain ⟨x, _, e⟩ := h2; subst h1; cases e
  | .tup l, b, k, h1, h2 => by
    simp [keyOf] at h1
    obtain ⟨x, h1, rfl⟩ := h1
    cases b <;> simp_all [keyOf]
    exact keysOf_inj l _ _ h1 h2
  | .bl _, _, _, h1, _ => by simp [keyOf] at h1
  | .lst _, _, _, h1, _ => by simp [keyOf] at h1
  | .dic _ _, _, _, h1, _ => by simp [keyOf] at h1
  | .obj _ _, _, _, h1, _ => by simp [keyOf] at h1
  | .scr _, _, _, h1, _ => by simp [keyOf] at h1
  | .adr _, _, _, h1, _ => by simp [keyOf] at h1
termination_by structural a => a
theorem keysOf_inj : ∀ (a b : List D) (k : List NestedKey), keysOf a = some k → keysOf b = some k → a = b
  | [], b, k, h1, h2 => by
    simp [keysOf] at h1
    subst h1
    cases b with
    | nil => rfl
    | cons y b =>
      unfold keysOf at h2
      split at h2
      · cases h2
      · cases h2
  | x :: a, b, k, h1, h2 => by
    unfold keysOf at h1
    split at h1
    · rename_i k1 ks1 e1 e2
      cases h1
      cases b with
      | nil => simp [keysOf] at h2
      | cons y b =>
        unfold keysOf at h2
        split at h2
        · rename_i k2 ks2 e3 e4
          cases h2
          rw [keyOf_inj x y _ e1 e3, keysOf_inj a b _ e2 e4]
        · cases h2
    · cases h1
termination_by structural a => a
end
mutual
theorem isKey_some : ∀ d : D, d.isKey = true → ∃ k, keyOf d = some k ∧ k.depth ≤ d.dep
  | .non, _ => ⟨_, rfl, Nat.le_refl _⟩
  | .int _, _ => ⟨_, rfl, Nat.le_refl _⟩
  | .str _, _ => ⟨_, rfl, Nat.le_refl _⟩
  | .tup l, h => by
    obtain ⟨ks, e, hd⟩ := isKeyL_some l (by simpa [D.isKey] using h)
    exact ⟨.tup ks, by simp [keyOf, e], by simp [NestedKey.depth, D.dep]; exact hd⟩
  | .bl _, h => by simp [D.isKey] at h
  | .lst _, h => by simp [D.isKey] at h
  | .dic _ _, h => by simp [D.isKey] at h
  | .obj _ _, h => by simp [D.isKey] at h
  | .scr _, h => by simp [D.isKey] at h
  | .adr _, h => by simp [D.isKey] at h
termination_by structural d => d
theorem isKeyL_some : ∀ l : List D, D.isKeyL l = true → ∃ ks, keysOf l = some ks ∧ NestedKey.depthAll ks ≤ D.depL l
  | [], _ => ⟨[], rfl, Nat.le_refl _⟩
  | x :: l, h => by
    have h : x.isKey = true ∧ D.isKeyL l = true := by simpa [D.isKeyL] using h
    obtain ⟨k, e1, d1⟩ := isKey_some x h.1
    obtain ⟨ks, e2, d2⟩ := isKeyL_some l h.2
    exact ⟨k :: ks, by simp [keysOf, e1, e2], by simp [NestedKey.depthAll, D.depL]; omega⟩
termination_by structural l => l
end
theorem tkey_some {d : D} (h : d.tkey = true) : ∃ ks l, d = .tup l ∧ keysOf l = some ks ∧ keyOf d = some (.tup ks) ∧ (NestedKey.tup ks).depth ≤ 8 := by
  cases d with
  | tup l =>
    have h : D.isKeyL l = true ∧ D.depL l ≤ 6 := by simpa [D.tkey] using h
    obtain ⟨ks, e, hd⟩ := isKeyL_some l h.1
    refine ⟨ks, l, rfl, e, by simp [keyOf, e], ?_⟩
    show NestedKey.depthAll ks + 1 ≤ 8
    omega
  | _ => simp [D.tkey] at h
section
variable {X : Cx} {pins : List (Addr × Obj)} {σ0 : St} {H Hf : Hp} {s : Shared} {W : WX}
mutual
theorem nested_of (I : Inv X pins σ0 H s) (sm : Same Hf H) : ∀ (d : D) (k : NestedKey) (v : V) (u : Value), keyOf d = some k → Den (ctx X) Hf d v → RelV v u → NestedIs s.heap k u
  | .non, k, v, u, e, h, r => by cases e; cases h; cases r; exact .none
  | .int i, k, v, u, e, h, r => by cases e; cases h; obtain ⟨t, rfl⟩ := r; exact .int i t
  | .str x, k, v, u, e, ⟨h, _⟩, r => by cases e; cases h; obtain ⟨t, rfl⟩ := r; exact .text _ t
  | .tup l, k, v, u, e, ⟨a, vs, h, h1, h2⟩, r => by
    simp [keyOf] at e
    obtain ⟨ks, e, rfl⟩ := e
    subst h
    cases r
    obtain ⟨its, rv, ⟨o, ho, hc, n, hd⟩, _⟩ := I.tuple (Same.seqT sm h1)
    exact .tup ho hc hd (nestedL_of I sm l ks vs its e h2 rv)
  | .bl _, k, v, u, e, h, r => by simp [keyOf] at e
  | .lst _, k, v, u, e, h, r => by simp [keyOf] at e
  | .dic _ _, k, v, u, e, h, r => by simp [keyOf] at e
  | .obj _ _, k, v, u, e, h, r => by simp [keyOf] at e
  | .scr _, k, v, u, e, h, r => by simp [keyOf] at e
  | .adr _, k, v, u, e, h, r => by simp [keyOf] at e
termination_by structural d => d
theorem nestedL_of (I : Inv X pins σ0 H s) (sm : Same Hf H) : ∀ (l : List D) (ks : List NestedKey) (vs : List V) (us : List Value), keysOf l = some ks → Dens (ctx X) Hf l vs → Vals vs us → NestedAll s.heap ks us
  | [], ks, vs, us, e, h, r => by
    simp [keysOf] at e
    subst e
    cases h
    cases r
    exact .nil
  | d :: l, ks, vs, us, e, ⟨v, r', q, h1, h2⟩, r => by
    subst q
    unfold keysOf at e
    split at e
    · rename_i k ks' e1 e2
      cases e
      cases r with
      | cons r1 r2 => exact .cons (nested_of I sm d k v _ e1 h1 r1) (nestedL_of I sm l ks' r' _ e2 h2 r2)
    · cases e
termination_by structural l => l
end
theorem key_is (I : Inv X pins σ0 H s) (sm : Same Hf H) {d : D} {v : V} (h : d.tkey = true) (hd : Den (ctx X) Hf d v) : ∃ k a, keyOf d = some k ∧ v = .ref a ∧ (nestedKind X.prog X.w).is s.heap k a := by
  obtain ⟨ks, l, rfl, e, e2, hdep⟩ := tkey_some h
  obtain ⟨a, vs, rfl, h1, h2⟩ := id hd
  exact ⟨_, a, e2, rfl, nested_of I sm _ _ _ _ e2 hd rfl, hdep⟩
/-- the entries of a dict, as the library has them -/
theorem paired_len {α β : Type} {P : α → β → Prop} {l : List α} {m : List β} (h : Paired P l m) : l.length = m.length := Paired.length h
theorem pairs_keys {xs : List (NestedKey × Addr × V)} {ys : List (NestedKey × Addr × Value)} (h : Paired (fun (p : NestedKey × Addr × V) (q : NestedKey × Addr × Value) => p.1 = q.1 ∧ p.2.1 = q.2.1 ∧ RelV p.2.2 q.2.2) xs ys) : ys.map (·.1) = xs.map (·.1) := by
  induction h with
  | nil => rfl
  | cons h t ih => simp [h.1, ih]
theorem dict_at (I : Inv X pins σ0 H s) (sm : Same Hf H) {a : Addr} {xs : List (NestedKey × Addr × V)} {ks : List D} (hH : H a = some (dHO (ctx X) a xs)) (hk : keysOf ks = some (xs.map (·.1)) ∧ ks.all D.tkey = true)
    (hd : Dens (ctx X) Hf ks (xs.map fun x => V.ref x.2.1)) : ∃ ys : List (NestedKey × Addr × Value), s.heap.DictOfH (nestedKind X.prog X.w) a ys ∧ Paired (fun (p : NestedKey × Addr × V) (q : NestedKey × Addr × Value) => p.1 = q.1 ∧ p.2.1 = q.2.1 ∧ RelV p.2.2 q.2.2) xs ys ∧
      (a == sysModules) = false ∧ xs.length ≤ sizeLine := by
  obtain ⟨⟨z1, z2, z3, ys, z4, o, es, ep, z5, z6, z7, z8⟩, _, _⟩ := (show ObjOk X.prog X.w H s.heap a (dHO (ctx X) a xs) from I.hok a _ hH)
  refine ⟨ys, ⟨o, es, ep, z5, z6, z7, z8, ?_, ?_⟩, z4, z1, z2⟩
  · have key : ∀ (xs : List (NestedKey × Addr × V)) (ys : List (NestedKey × Addr × Value)) (ks : List D), Paired (fun (p : NestedKey × Addr × V) (q : NestedKey × Addr × Value) => p.1 = q.1 ∧ p.2.1 = q.2.1 ∧ RelV p.2.2 q.2.2) xs ys → keysOf ks = some (xs.map (·.1)) → ks.all D.tkey = true →
        Dens (ctx X) Hf ks (xs.map fun x => V.ref x.2.1) → ∀ y ∈ ys, (nestedKind X.prog X.w).is s.heap y.1 y.2.1 := by
      intro xs
      induction xs with
      | nil =>
        intro ys ks p _ _ _ y hy
        cases p
        cases hy
      | cons x xs ih =>
        intro ys ks p e al dn y hy
        cases p with
        | cons p1 p2 =>
          rename_i y0 ys0
          cases ks with
          | nil => simp [keysOf] at e
          | cons kd ks =>
            unfold keysOf at e
            split at e
            · rename_i k1 ks1 e1 e2
              simp only [List.map_cons, Option.some.injEq, List.cons.injEq] at e
              obtain ⟨e3, e4⟩ := e
              obtain ⟨v, r, q, w1, w2⟩ := dn
              simp only [List.map_cons, List.cons.injEq] at q
              obtain ⟨q1, q2⟩ := q
              subst q1 q2
              have al : kd.tkey = true ∧ ks.all D.tkey = true := by simpa using al
              rcases List.mem_cons.mp hy with rfl | hy
              · obtain ⟨k, b, w3, w4, w5⟩ := key_is I sm al.1 w1
                rw [e1] at w3
                cases w3
                cases w4
                rw [← p1.1, ← p1.2.1, ← e3]
                exact w5
              · exact ih ys0 ks p2 (by rw [e2, e4]) al.2 w2 y hy
            · cases e
    exact key xs ys ks z4 hk.1 hk.2 hd
  · rw [pairs_keys z4]
    exact z3
/-- what stands at a key -/
theorem dict_get {xs : List (NestedKey × Addr × V)} {ys : List (NestedKey × Addr × Value)} (p : Paired (fun (p : NestedKey × Addr × V) (q : NestedKey × Addr × Value) => p.1 = q.1 ∧ p.2.1 = q.2.1 ∧ RelV p.2.2 q.2.2) xs ys) :
    ∀ {ks ds : List D} {k : D} {nk : NestedKey}, keysOf ks = some (xs.map (·.1)) → Dens (ctx X) Hf ds (xs.map (·.2.2)) → keyOf k = some nk →
      match keyAt k ks ds with
      | some d => ∃ v u, valueAt (pairsH ys) nk = some u ∧ RelV v u ∧ Den (ctx X) Hf d v
      | none => valueAt (pairsH ys) nk = none := by
  induction p with
  | nil =>
    intro ks ds k nk e dn hk
    cases ks with
    | nil =>
      have e0 : keyAt k [] ds = none := by unfold keyAt; rfl
      rw [e0]
      rfl
    | cons x ks =>
      unfold keysOf at e
      split at e <;> cases e
  | @cons x y xs ys h t ih =>
    intro ks ds k nk e dn hk
    cases ks with
    | nil => simp [keysOf] at e
    | cons kd ks =>
      unfold keysOf at e
      split at e
      · rename_i k1 ks1 e1 e2
        simp only [List.map_cons, Option.some.injEq, List.cons.injEq] at e
        obtain ⟨e3, e4⟩ := e
        cases ds with
        | nil => cases dn
        | cons dd ds =>
          obtain ⟨v, r, q, w1, w2⟩ := dn
          simp only [List.map_cons, List.cons.injEq] at q
          obtain ⟨q1, q2⟩ := q
          subst q1 q2
          unfold keyAt
          by_cases hkk : kd = k
          · subst hkk
            rw [e1] at hk
            cases hk
            rw [if_pos rfl]
            refine ⟨_, y.2.2, ?_, h.2.2, w1⟩
            unfold pairsH valueAt
            simp [← h.1, e3]
          · rw [if_neg hkk]
            have ih := ih (ks := ks) (ds := ds) (k := k) (nk := nk) (by rw [e2, e4]) w2 hk
            have hne : y.1 ≠ nk := fun z => hkk (keyOf_inj _ _ nk (by rw [e1, e3, h.1, z]) hk)
            have e5 : valueAt (pairsH (y :: ys)) nk = valueAt (pairsH ys) nk := by
              unfold pairsH valueAt
              simp [hne]
            rw [e5]
            exact ih
      · cases e
end
section
variable {X : Cx} {W : WX}
theorem op_eqX (hu : X.A.units + 64 < cLine) : OpR X (compareOp .Eq) (rOp (ctx X) W (cmpD .eq)) := by
  intro pins s σ0 H x y v u Q I rx ry ⟨F, ρ, σ, Hf, p, q, r, tp, tq, po⟩
  replace po : Post (ctx X) F W σ (dE (ctx X) σ) Q Hf (opt (if eqOk p q then some (.bl (eqD p q)) else none) ρ) := by
    cases p <;> exact po
  split at po
  · rename_i hz
    have hz : p.dep ≤ 64 ∧ q.dep ≤ 64 := by simpa [eqOk] using hz
    obtain ⟨d1, s1⟩ := top_dp r hz.1 tp
    obtain ⟨d2, s2⟩ := top_dp r hz.2 tq
    refine op_eqD hu pins s σ0 H x y v u Q I rx ry ⟨_, _, d1, d2, s1, s2, ?_⟩
    rw [py_eqv p q (by omega) (by omega)]
    exact po _ _ _ r (Same.refl _) rfl
  · exact po.elim
theorem op_neX (hu : X.A.units + 64 < cLine) : OpR X (compareOp .NotEq) (rOp (ctx X) W (cmpD .ne)) := by
  intro pins s σ0 H x y v u Q I rx ry ⟨F, ρ, σ, Hf, p, q, r, tp, tq, po⟩
  replace po : Post (ctx X) F W σ (dE (ctx X) σ) Q Hf (opt (if eqOk p q then some (.bl (!eqD p q)) else none) ρ) := by
    cases p <;> exact po
  split at po
  · rename_i hz
    have hz : p.dep ≤ 64 ∧ q.dep ≤ 64 := by simpa [eqOk] using hz
    obtain ⟨d1, s1⟩ := top_dp r hz.1 tp
    obtain ⟨d2, s2⟩ := top_dp r hz.2 tq
    refine op_neD hu pins s σ0 H x y v u Q I rx ry ⟨_, _, d1, d2, s1, s2, ?_⟩
    rw [py_eqv p q (by omega) (by omega)]
    exact po _ _ _ r (Same.refl _) rfl
  · exact po.elim
theorem op_ltX : OpR X (compareOp .Lt) (rOp (ctx X) W (cmpD .lt)) := by
  intro pins s σ0 H x y v u Q I rx ry ⟨F, ρ, σ, Hf, p, q, r, tp, tq, po⟩
  cases p <;> cases q <;> first | exact po.elim | skip
  exact op_lt pins s σ0 H x y v u Q I rx ry ⟨_, _, tp, tq, po _ _ _ r (Same.refl _) rfl⟩
theorem op_leX : OpR X (compareOp .LtE) (rOp (ctx X) W (cmpD .le)) := by
  intro pins s σ0 H x y v u Q I rx ry ⟨F, ρ, σ, Hf, p, q, r, tp, tq, po⟩
  cases p <;> cases q <;> first | exact po.elim | skip
  exact op_le pins s σ0 H x y v u Q I rx ry ⟨_, _, tp, tq, po _ _ _ r (Same.refl _) rfl⟩
theorem op_gtX : OpR X (compareOp .Gt) (rOp (ctx X) W (cmpD .gt)) := by
  intro pins s σ0 H x y v u Q I rx ry ⟨F, ρ, σ, Hf, p, q, r, tp, tq, po⟩
  cases p <;> cases q <;> first | exact po.elim | skip
  exact op_gt pins s σ0 H x y v u Q I rx ry ⟨_, _, tp, tq, po _ _ _ r (Same.refl _) rfl⟩
theorem op_geX : OpR X (compareOp .GtE) (rOp (ctx X) W (cmpD .ge)) := by
  intro pins s σ0 H x y v u Q I rx ry ⟨F, ρ, σ, Hf, p, q, r, tp, tq, po⟩
  cases p <;> cases q <;> first | exact po.elim | skip
  exact op_ge pins s σ0 H x y v u Q I rx ry ⟨_, _, tp, tq, po _ _ _ r (Same.refl _) rfl⟩
theorem top_non {c : Ct} {Hf H : Hp} {d : D} {v : V} (h : Top c Hf H d v) : decide (v = V.non) = (match d with | .non => true | _ => false) := by
  cases d with
  | non => cases h; rfl
  | bl b => cases h; rfl
  | int b => cases h; rfl
  | str b => cases h.1; rfl
  | adr b => cases h; rfl
  | _ =>
    obtain ⟨a, h⟩ := h
    first
      | (obtain ⟨_, rfl, _⟩ := h; rfl)
      | (obtain ⟨_, _, _, rfl, _⟩ := h; rfl)
      | (obtain ⟨rfl, _⟩ := h; rfl)
theorem op_isnX : OpR X (compareOp .Is) (rOp (ctx X) W (cmpD .isn)) := by
  intro pins s σ0 H x y v u Q I rx ry ⟨F, ρ, σ, Hf, p, q, r, tp, tq, po⟩
  have e := top_non tp
  cases q <;> first | (exfalso; revert po; cases p <;> exact fun po => po.elim) | skip
  refine op_isN pins s σ0 H x y v u Q I rx ry ⟨tq, ?_⟩
  rw [e]
  cases p <;> exact po _ _ _ r (Same.refl _) rfl
theorem op_notnX : OpR X (compareOp .IsNot) (rOp (ctx X) W (cmpD .notn)) := by
  intro pins s σ0 H x y v u Q I rx ry ⟨F, ρ, σ, Hf, p, q, r, tp, tq, po⟩
  have e := top_non tp
  cases q <;> first | (exfalso; revert po; cases p <;> exact fun po => po.elim) | skip
  refine op_notN pins s σ0 H x y v u Q I rx ry ⟨tq, ?_⟩
  rw [e]
  cases p <;> exact po _ _ _ r (Same.refl _) rfl
end
end NV

/-! NV.F: membership, items, slices, truth, built-ins. -/
namespace NV
open PySem PySem.Spec PyProof.Rows L2

section
variable {X : Cx} {W : WX}
theorem depL_any {l : List D} {x : D} (h : D.depL l ≤ 60) (hx : x.dep ≤ 60) : ((pyL l).any fun z => PyData.eqv z (py x)) = l.any fun y => eqD y x := by
  induction l with
  | nil => rfl
  | cons y l ih =>
    have h : max y.dep (D.depL l) ≤ 60 := by simpa [D.depL] using h
    simp only [pyL, List.any_cons]
    rw [py_eqv y x (by omega) (by omega), ih (by omega)]
theorem dep0_flat {c : Ct} {Hf : Hp} : ∀ {d : D} {v : V}, d.dep = 0 → Den c Hf d v → flatV v = true
  | .non, _, _, h => by cases h; rfl
  | .bl _, _, _, h => by cases h; rfl
  | .int _, _, _, h => by cases h; rfl
  | .str _, _, _, h => by cases h.1; rfl
  | .tup _, _, h, _ => by simp [D.dep] at h
  | .lst _, _, h, _ => by simp [D.dep] at h
  | .dic _ _, _, h, _ => by simp [D.dep] at h
  | .obj _ _, _, h, _ => by simp [D.dep] at h
  | .scr _, _, h, _ => by simp [D.dep] at h
theorem flat_eqV {c : Ct} {Hf : Hp} {d e : D} {v w : V} (h1 : d.dep = 0) (h2 : e.dep = 0) (a : Den c Hf d v) (b : Den c Hf e w) : eqV v w = eqD d e := by
  cases d <;> first | (simp [D.dep] at h1; done) | skip
  all_goals (cases e <;> first | (simp [D.dep] at h2; done) | skip)
  all_goals (simp only [Den] at a b)
  all_goals (first | subst a | (obtain ⟨a', _⟩ := a; subst a'))
  all_goals (first | subst b | (obtain ⟨b', _⟩ := b; subst b'))
  all_goals (first | rfl | (simp [eqV, eqD]; done) | (simp [eqV, eqD]; exact Bool.eq_iff_iff.mpr (by simp)))
theorem flat_any {c : Ct} {Hf : Hp} {x : D} {v : V} (hx : x.dep = 0) (dx : Den c Hf x v) : ∀ {l : List D} {vs : List V}, D.depL l = 0 → Dens c Hf l vs → (inV v vs = l.any fun y => eqD y x) ∧ vs.all flatV = true
  | [], _, _, h => by cases h; exact ⟨rfl, rfl⟩
  | d :: l, _, h, ⟨w, r, q, h1, h2⟩ => by
    subst q
    have h : max d.dep (D.depL l) = 0 := by simpa [D.depL] using h
    have e1 : d.dep = 0 := by omega
    obtain ⟨i1, i2⟩ := flat_any hx dx (l := l) (by omega) h2
    refine ⟨?_, by simp [dep0_flat e1 h1, i2]⟩
    show (eqV w v || inV v r) = _
    rw [flat_eqV e1 hx h1 dx, i1]
    rfl
/-- in, by its answer -/
theorem in_core (hu : X.A.units + 65 < cLine) {f : Bool → Bool} {op : CmpOp} (hop : (op = .In ∧ f = id) ∨ (op = .NotIn ∧ f = not)) : OpR X (compareOp op) (rOp (ctx X) W fun a b => (inD a b).map fun r => .bl (f r)) := by
  intro pins s σ0 H x y v u Q I rx ry ⟨F, ρ, σ, Hf, p, q, r, tp, tq, po⟩
  cases q with
  | str z =>
    obtain ⟨hz, gz⟩ := (show Den _ _ _ _ from tq)
    cases p with
    | str w =>
      obtain ⟨hw, gw⟩ := (show Den _ _ _ _ from tp)
      match w, hw, gw, po, tp with
      | [ch], hw, gw, po, tp =>
        have e : decide (ch ∈ (⟨z.toArray⟩ : Str).cps.toList) = z.contains ch := by simp [Bool.eq_iff_iff]
        rcases hop with ⟨rfl, rfl⟩ | ⟨rfl, rfl⟩
        · refine op_in_sign pins s σ0 H x y v u Q I rx ry ⟨ch, _, hw, hz, ?_⟩
          rw [e]
          exact po _ _ _ r (Same.refl _) rfl
        · refine op_notIn_sign pins s σ0 H x y v u Q I rx ry ⟨ch, _, hw, hz, ?_⟩
          rw [e]
          exact po _ _ _ r (Same.refl _) rfl
      | [], _, _, po, _ => exact po.elim
      | _ :: _ :: _, _, _, po, _ => exact po.elim
    | _ => exact po.elim
  | lst l =>
    replace po : Post (ctx X) F W σ (dE (ctx X) σ) Q Hf (opt ((if p.dep ≤ 60 ∧ D.depL l ≤ 60 then some (l.any fun y => eqD y p) else none).map fun r => .bl (f r)) ρ) := by
      cases p <;> exact po
    split at po
    · rename_i hz
      obtain ⟨a, vs, rfl, h1, h2⟩ := tq
      obtain ⟨d1, s1⟩ := top_dp r (by omega) tp
      obtain ⟨w1, w2⟩ := dens_dp r.sub l vs (by omega) h2
      have sh : SeqAt.shaped (.list (pyL l)) = true := by
        unfold SeqAt.shaped
        have e1 : (PyData.list (pyL l)).canLay0 = true := w2
        have e2 : (PyData.list (pyL l)).depth = D.depL l + 1 := by
          show PyData.depthAll (pyL l) + 1 = _
          rw [py_depthL l (by omega)]
        rw [e1, e2]
        simp
        omega
      rcases hop with ⟨rfl, rfl⟩ | ⟨rfl, rfl⟩
      · refine op_inD hu pins s σ0 H x _ v u Q I rx ry ⟨_, _, d1, .lst (SqL.of h1) w1, s1, sh, ?_⟩
        rw [depL_any hz.2 hz.1]
        exact po _ _ _ r (Same.refl _) rfl
      · refine op_notInD hu pins s σ0 H x _ v u Q I rx ry ⟨_, _, d1, .lst (SqL.of h1) w1, s1, sh, ?_⟩
        rw [depL_any hz.2 hz.1]
        exact po _ _ _ r (Same.refl _) rfl
    · exact po.elim
  | tup l =>
    replace po : Post (ctx X) F W σ (dE (ctx X) σ) Q Hf (opt ((if p.dep = 0 ∧ D.depL l = 0 then some (l.any fun y => eqD y p) else none).map fun r => .bl (f r)) ρ) := by
      cases p <;> exact po
    split at po
    · rename_i hz
      obtain ⟨a, vs, rfl, h1, h2⟩ := (show Den _ _ _ _ from tq)
      have dp : Den (ctx X) Hf p x := by
        cases p <;> first | exact tp | (simp [D.dep] at hz; done)
      obtain ⟨i1, i2⟩ := flat_any hz.1 dp hz.2 h2
      rcases hop with ⟨rfl, rfl⟩ | ⟨rfl, rfl⟩
      · refine op_in_seq pins s σ0 H x _ v u Q I rx ry ⟨a, vs, rfl, .inr (Same.seqT r.sub h1), dep0_flat hz.1 dp, i2, ?_⟩
        rw [i1]
        exact po _ _ _ r (Same.refl _) rfl
      · refine op_notIn_seq pins s σ0 H x _ v u Q I rx ry ⟨a, vs, rfl, .inr (Same.seqT r.sub h1), dep0_flat hz.1 dp, i2, ?_⟩
        rw [i1]
        exact po _ _ _ r (Same.refl _) rfl
    · exact po.elim
  | dic ks ds =>
    replace po : Post (ctx X) F W σ (dE (ctx X) σ) Q Hf (opt ((if p.tkey then some (keyAt p ks ds).isSome else none).map fun r => .bl (f r)) ρ) := by
      cases p <;> exact po
    split at po
    · rename_i hz
      obtain ⟨a, xs, rfl, h1, h2, h3, h4⟩ := tq
      cases ry
      have dp : Den (ctx X) Hf p x := by
        cases p <;> first | exact tp | (simp [D.tkey] at hz; done)
      obtain ⟨nk, b, e1, rfl, hk⟩ := key_is I r.sub hz dp
      cases rx
      obtain ⟨ys, w1, w2, w3, w4⟩ := dict_at I r.sub h1 h2 h3
      have g := dict_get (X := X) (Hf := Hf) w2 (k := p) h2.1 h4 e1
      have e : (valueAt (pairsH ys) nk).isSome = (keyAt p ks ds).isSome := by
        cases z : keyAt p ks ds with
        | none => rw [z] at g; rw [g]; rfl
        | some d =>
          rw [z] at g
          obtain ⟨_, _, g1, _⟩ := g
          rw [g1]
          rfl
      have fin : Q (.bl (f (valueAt (pairsH ys) nk).isSome)) H := by
        rw [e]
        exact po _ _ _ r (Same.refl _) rfl
      rcases hop with ⟨rfl, rfl⟩ | ⟨rfl, rfl⟩
      · exact in_keyed (knd := nestedKind X.prog X.w) (by show X.A.units + 1 + 8 < cLine; omega) hk w3 ⟨ys, w1, rfl⟩ ⟨.bl _, H, I.tok _, rfl, fin⟩
      · exact notIn_keyed (knd := nestedKind X.prog X.w) (by show X.A.units + 1 + 8 < cLine; omega) hk w3 ⟨ys, w1, rfl⟩ ⟨.bl _, H, I.tok _, rfl, fin⟩
    · exact po.elim
  | _ => cases p <;> exact po.elim
theorem op_inX (hu : X.A.units + 65 < cLine) : OpR X (compareOp .In) (rOp (ctx X) W (cmpD .isin)) :=
  OpR.imp (in_core (W := W) (f := id) hu (.inl ⟨rfl, rfl⟩)) fun x y H Q ⟨F, ρ, σ, Hf, p, q, r, tp, tq, po⟩ => ⟨F, ρ, σ, Hf, p, q, r, tp, tq, by cases p <;> exact po⟩
theorem op_notInX (hu : X.A.units + 65 < cLine) : OpR X (compareOp .NotIn) (rOp (ctx X) W (cmpD .notin)) :=
  OpR.imp (in_core (W := W) (f := not) hu (.inr ⟨rfl, rfl⟩)) fun x y H Q ⟨F, ρ, σ, Hf, p, q, r, tp, tq, po⟩ => ⟨F, ρ, σ, Hf, p, q, r, tp, tq, by cases p <;> exact po⟩
/-- the comparisons' rules -/
def cmOp : Cm → CmpOp
  | .eq => .Eq | .ne => .NotEq | .lt => .Lt | .le => .LtE | .gt => .Gt | .ge => .GtE | .isin => .In | .notin => .NotIn | .isn => .Is | .notn => .IsNot
theorem op_cm (hu : X.A.units + 65 < cLine) : ∀ o : Cm, OpR X (compareOp (cmOp o)) (rOp (ctx X) W (cmpD o))
  | .eq => op_eqX (by omega) | .ne => op_neX (by omega) | .lt => op_ltX | .le => op_leX | .gt => op_gtX | .ge => op_geX | .isin => op_inX hu | .notin => op_notInX hu | .isn => op_isnX | .notn => op_notnX
def opOp : Op → Operator
  | .add => .Add | .sub => .Sub | .mul => .Mult | .div => .FloorDiv | .mod => .Mod
theorem op_bi : ∀ o : Op, OpR X (binaryOp (opOp o)) (rOp (ctx X) W (binD o))
  | .add => op_addX | .sub => op_subX | .mul => op_mulX | .div => op_divX | .mod => op_modX

/-! ### truth -/
variable {e a b : Expr} {m ma mb mc : ME} {pos : Pos}
theorem s_not (h : Snd X W e m) : Snd X W (.UnaryOp .Not e pos) (.not m) := by
  have h1 : PE X (.UnaryOp .Not e pos) (tv (ctx X) W (ev (.not m))) := by
    refine PE.mono (pe_not h.pe) fun σ H Q ⟨F, ρ, Hf, r, p⟩ => ?_
    have p : Post (ctx X) F W σ (dE (ctx X) σ) Q Hf ((ev m ρ).bind fun x => (match x.1 with | .bl b => .ok (.bl (!b), x.2) | _ => .stuck : Res)) := p
    refine step r p fun d ρ' v H' Hf' r' s' dn p' => ?_
    cases d with
    | bl b => exact ⟨b, dn, p' _ H' Hf' r' (Same.refl _) rfl⟩
    | _ => exact p'.elim
  refine ⟨h1, pp_of h1 (fun i z => nomatch z), PT.mono (pt_not h.pt) fun σ H Q ⟨F, ρ, Hf, r, p⟩ => ?_⟩
  have e1 : evT (ev (.not m)) ρ = (evT (ev m) ρ).bind fun x => .ok (!x.1, x.2) := by
    unfold evT
    show (((ev m ρ).bind fun x => (match x.1 with | .bl b => .ok (.bl (!b), x.2) | _ => .stuck : Res)).bind _ : Out Rho (Bool × Rho)) = _
    cases ev m ρ with
    | stuck => rfl
    | exc _ _ => rfl
    | ok x =>
      obtain ⟨d, ρ'⟩ := x
      cases d <;> rfl
  rw [e1] at p
  refine step r p fun d ρ' v H' Hf' r' s' dn p' => ?_
  subst dn
  exact p' _ H' Hf' r' (Same.refl _) rfl
theorem s_ife {ec ea eb : Expr} (hc : Snd X W ec mc) (ha : Snd X W ea ma) (hb : Snd X W eb mb) : Snd X W (.IfExp ec ea eb pos) (.ife mc ma mb) := by
  have e1 : ∀ ρ, ev (.ife mc ma mb) ρ = (evT (ev mc) ρ).bind fun x => if x.1 then ev ma x.2 else ev mb x.2 := fun ρ => by
    unfold evT
    show ((ev mc ρ).bind fun x => (match x.1 with | .bl true => ev ma x.2 | .bl false => ev mb x.2 | _ => .stuck : Res)) = _
    cases ev mc ρ with
    | stuck => rfl
    | exc _ _ => rfl
    | ok x =>
      obtain ⟨d, ρ'⟩ := x
      cases d with
      | bl b => cases b <;> rfl
      | _ => rfl
  have h1 : PE X (.IfExp ec ea eb pos) (tv (ctx X) W (ev (.ife mc ma mb))) := by
    refine PE.mono (pe_ifExp hc.pt ha.pe hb.pe) fun σ H Q ⟨F, ρ, Hf, r, p⟩ => ?_
    rw [e1] at p
    refine step r p fun d ρ' v H' Hf' r' s' dn p' => ?_
    subst dn
    cases d with
    | true => exact ⟨F, ρ', Hf', r', p'⟩
    | false => exact ⟨F, ρ', Hf', r', p'⟩
  refine ⟨h1, pp_of h1 (fun i z => nomatch z), ⟨fun pins s σ H Q I ⟨F, ρ, Hf, r, p⟩ => ?_⟩⟩
  have e2 : evT (ev (.ife mc ma mb)) ρ = (evT (ev mc) ρ).bind fun x => if x.1 then evT (ev ma) x.2 else evT (ev mb) x.2 := by
    show (ev (.ife mc ma mb) ρ).bind _ = _
    rw [e1]
    cases evT (ev mc) ρ with
    | stuck => rfl
    | exc _ _ => rfl
    | ok x =>
      obtain ⟨d, ρ'⟩ := x
      cases d <;> rfl
  rw [e2] at p
  refine isTrue_IfExp (thn (hc.pt.run pins s σ H (fun b H1 => if b = true then tT (ctx X) W (ev ma) σ H1 Q else tT (ctx X) W (ev mb) σ H1 Q) I ?_) fun b s1 ⟨H1, I1, q1⟩ => ?_)
  · refine step r p fun d ρ' v H' Hf' r' s' dn p' => ?_
    subst dn
    cases d with
    | true => exact ⟨F, ρ', Hf', r', p'⟩
    | false => exact ⟨F, ρ', Hf', r', p'⟩
  · cases b with
    | true => exact ha.pt.run pins s1 σ H1 Q I1 q1
    | false => exact hb.pt.run pins s1 σ H1 Q I1 q1
theorem evAnd_one (m : ME) (ρ : Rho) : evAnd [m] ρ = (ev m ρ).bind fun x => match x.1 with | .bl b => .ok (.bl b, x.2) | _ => .stuck := rfl
theorem evAnd_cons (m m2 : ME) (ms : List ME) (ρ : Rho) : evAnd (m :: m2 :: ms) ρ = (ev m ρ).bind fun x => match x.1 with | .bl b => if b then evAnd (m2 :: ms) x.2 else .ok (.bl false, x.2) | _ => .stuck := rfl
theorem evOr_one (m : ME) (ρ : Rho) : evOr [m] ρ = (ev m ρ).bind fun x => match x.1 with | .bl b => .ok (.bl b, x.2) | _ => .stuck := rfl
theorem evOr_cons (m m2 : ME) (ms : List ME) (ρ : Rho) : evOr (m :: m2 :: ms) ρ = (ev m ρ).bind fun x => match x.1 with | .bl b => if b then .ok (.bl true, x.2) else evOr (m2 :: ms) x.2 | _ => .stuck := rfl
theorem and_pe {es : List Expr} {ms : List ME} (h : SndL X W es ms) (hn : ms ≠ []) : PE X (.BoolOp .And es pos) (tv (ctx X) W (evAnd ms)) := by
  induction h with
  | nil => exact absurd rfl hn
  | @cons e m es ms h hs t ih =>
    cases t with
    | nil =>
      refine PE.mono (pe_one h.pe) fun σ H Q ⟨F, ρ, Hf, r, p⟩ => ?_
      rw [evAnd_one] at p
      refine step r p fun d ρ' v H' Hf' r' s' dn p' => ?_
      cases d with
      | bl b => exact p' _ H' Hf' r' (Same.refl _) dn
      | _ => exact p'.elim
    | @cons e2 m2 es ms h2 hs2 t2 =>
      refine PE.mono (pe_and h.pe (ih (by simp))) fun σ H Q ⟨F, ρ, Hf, r, p⟩ => ?_
      rw [evAnd_cons] at p
      refine step r p fun d ρ' v H' Hf' r' s' dn p' => ?_
      cases d with
      | bl b =>
        refine ⟨b, dn, ?_⟩
        cases b with
        | true => exact ⟨F, ρ', Hf', r', p'⟩
        | false => exact p' _ H' Hf' r' (Same.refl _) rfl
      | _ => exact p'.elim
theorem or_pe {es : List Expr} {ms : List ME} (h : SndL X W es ms) (hn : ms ≠ []) : PE X (.BoolOp .Or es pos) (tv (ctx X) W (evOr ms)) := by
  induction h with
  | nil => exact absurd rfl hn
  | @cons e m es ms h hs t ih =>
    cases t with
    | nil =>
      refine PE.mono (pe_one h.pe) fun σ H Q ⟨F, ρ, Hf, r, p⟩ => ?_
      rw [evOr_one] at p
      refine step r p fun d ρ' v H' Hf' r' s' dn p' => ?_
      cases d with
      | bl b => exact p' _ H' Hf' r' (Same.refl _) dn
      | _ => exact p'.elim
    | @cons e2 m2 es ms h2 hs2 t2 =>
      refine PE.mono (pe_or h.pe (ih (by simp))) fun σ H Q ⟨F, ρ, Hf, r, p⟩ => ?_
      rw [evOr_cons] at p
      refine step r p fun d ρ' v H' Hf' r' s' dn p' => ?_
      cases d with
      | bl b =>
        refine ⟨b, dn, ?_⟩
        cases b with
        | true => exact p' _ H' Hf' r' (Same.refl _) rfl
        | false => exact ⟨F, ρ', Hf', r', p'⟩
      | _ => exact p'.elim
theorem evT_and (m m2 : ME) (ms : List ME) (ρ : Rho) : evT (evAnd (m :: m2 :: ms)) ρ = (evT (ev m) ρ).bind fun x => if x.1 then evT (evAnd (m2 :: ms)) x.2 else .ok (false, x.2) := by
  unfold evT
  rw [evAnd_cons]
  cases ev m ρ with
  | stuck => rfl
  | exc _ _ => rfl
  | ok x =>
    obtain ⟨d, ρ'⟩ := x
    cases d with
    | bl b => cases b <;> rfl
    | _ => rfl
theorem evT_or (m m2 : ME) (ms : List ME) (ρ : Rho) : evT (evOr (m :: m2 :: ms)) ρ = (evT (ev m) ρ).bind fun x => if x.1 then .ok (true, x.2) else evT (evOr (m2 :: ms)) x.2 := by
  unfold evT
  rw [evOr_cons]
  cases ev m ρ with
  | stuck => rfl
  | exc _ _ => rfl
  | ok x =>
    obtain ⟨d, ρ'⟩ := x
    cases d with
    | bl b => cases b <;> rfl
    | _ => rfl
theorem evT_one (m : ME) (ρ : Rho) : evT (evAnd [m]) ρ = evT (ev m) ρ := by
  unfold evT
  rw [evAnd_one]
  cases ev m ρ with
  | stuck => rfl
  | exc _ _ => rfl
  | ok x =>
    obtain ⟨d, ρ'⟩ := x
    cases d <;> rfl
theorem evT_oneO (m : ME) (ρ : Rho) : evT (evOr [m]) ρ = evT (ev m) ρ := by
  unfold evT
  rw [evOr_one]
  cases ev m ρ with
  | stuck => rfl
  | exc _ _ => rfl
  | ok x =>
    obtain ⟨d, ρ'⟩ := x
    cases d <;> rfl
theorem and_pw {es : List Expr} {ms : List ME} (h : SndL X W es ms) (hn : ms ≠ []) : PW X (.BoolOp .And es pos) (tT (ctx X) W (evAnd ms)) := by
  induction h with
  | nil => exact absurd rfl hn
  | @cons e m es ms h hs t ih =>
    cases t with
    | nil =>
      refine PW.mono (pw_and1 h.pt) fun σ H Q ⟨F, ρ, Hf, r, p⟩ => ?_
      rw [evT_one] at p
      exact ⟨F, ρ, Hf, r, p⟩
    | @cons e2 m2 es ms h2 hs2 t2 =>
      refine PW.mono (pw_and h.pt (ih (by simp))) fun σ H Q ⟨F, ρ, Hf, r, p⟩ => ?_
      rw [evT_and] at p
      refine step r p fun d ρ' v H' Hf' r' s' dn p' => ?_
      subst dn
      cases d with
      | true => exact ⟨F, ρ', Hf', r', p'⟩
      | false => exact p' _ H' Hf' r' (Same.refl _) rfl
theorem or_pw {es : List Expr} {ms : List ME} (h : SndL X W es ms) (hn : ms ≠ []) : PW X (.BoolOp .Or es pos) (tT (ctx X) W (evOr ms)) := by
  induction h with
  | nil => exact absurd rfl hn
  | @cons e m es ms h hs t ih =>
    cases t with
    | nil =>
      refine PW.mono (pw_or1 h.pt) fun σ H Q ⟨F, ρ, Hf, r, p⟩ => ?_
      rw [evT_oneO] at p
      exact ⟨F, ρ, Hf, r, p⟩
    | @cons e2 m2 es ms h2 hs2 t2 =>
      refine PW.mono (pw_or h.pt (ih (by simp))) fun σ H Q ⟨F, ρ, Hf, r, p⟩ => ?_
      rw [evT_or] at p
      refine step r p fun d ρ' v H' Hf' r' s' dn p' => ?_
      subst dn
      cases d with
      | true => exact p' _ H' Hf' r' (Same.refl _) rfl
      | false => exact ⟨F, ρ', Hf', r', p'⟩
theorem s_and {es : List Expr} {ms : List ME} (h : SndL X W es ms) (hn : ms ≠ []) : Snd X W (.BoolOp .And es pos) (.and ms) := ⟨and_pe h hn, pp_of (and_pe h hn) (fun i z => nomatch z), (and_pw h hn).pt⟩
theorem s_or {es : List Expr} {ms : List ME} (h : SndL X W es ms) (hn : ms ≠ []) : Snd X W (.BoolOp .Or es pos) (.or ms) := ⟨or_pe h hn, pp_of (or_pe h hn) (fun i z => nomatch z), (or_pw h hn).pt⟩
end
end NV

/-! NV.G: items, slices, fields, built-ins of one argument, dict.get, join. -/
namespace NV
open PySem PySem.Spec PyProof.Rows L2

section
variable {X : Cx} {W : WX} {e a b : Expr} {m ma mb mc : ME} {pos : Pos}
theorem s_neg (h : Snd X W e m) : Snd X W (.UnaryOp .USub e pos) (.neg m) := by
  refine Snd.of (PE.mono (pe_un un_neg h.pe) fun σ H Q ⟨F, ρ, Hf, r, p⟩ => ?_) (fun i z => nomatch z) (fun _ => rfl)
  have p : Post (ctx X) F W σ (dE (ctx X) σ) Q Hf ((ev m ρ).bind fun x => opt (negD x.1) x.2) := p
  refine step r p fun d ρ' v H' Hf' r' s' dn p' => ?_
  cases d with
  | int i => exact ⟨i, dn, p' _ H' Hf' r' (Same.refl _) rfl⟩
  | _ => exact p'.elim
theorem s_chn {ea eb ec : Expr} {o o' : Cm} (hu : X.A.units + 65 < cLine) (ha : Snd X W ea ma) (hb : Snd X W eb mb) (hc : Snd X W ec mc) (hm : lastMarks [cmOp o, cmOp o'] [eb, ec] = false) : Snd X W (.Compare ea [cmOp o, cmOp o'] [eb, ec] pos) (.chn o o' ma mb mc) := by
  have core : ∀ {α : Type} {β : Type} {dnZ : α → β → Hp → Prop} {Q2 : β → Hp → Prop} {Q' : VK} {σ H F ρ Hf} {f : D × Rho → Out Rho (α × Rho)}, R (ctx X) F ρ σ H Hf → Post (ctx X) F W σ dnZ Q2 Hf ((ev (.chn o o' ma mb mc) ρ).bind f) →
      (∀ Hf', Same Hf Hf' → ∀ {ρ' d}, Post (ctx X) F W σ dnZ Q2 Hf' ((opt d ρ').bind f) → Post (ctx X) F W σ (dE (ctx X) σ) Q' Hf' (opt d ρ')) → tChain (rOp (ctx X) W (cmpD o)) (rOp (ctx X) W (cmpD o')) (tv (ctx X) W (ev ma)) (tv (ctx X) W (ev mb)) (tv (ctx X) W (ev mc)) σ H Q' := by
    intro α β dnZ Q2 Q' σ H F ρ Hf f r p k
    have assoc : ∀ {α β γ : Type} (o : Out Rho α) (g : α → Out Rho β) (h : β → Out Rho γ), (o.bind g).bind h = o.bind fun x => (g x).bind h := fun o g h => by cases o <;> rfl
    have p : Post (ctx X) F W σ dnZ Q2 Hf (((ev ma ρ).bind fun x => (ev mb x.2).bind fun y => match cmpD o x.1 y.1 with
      | some (.bl true) => (ev mc y.2).bind fun z => opt (cmpD o' y.1 z.1) z.2
      | some (.bl false) => .ok (.bl false, y.2)
      | _ => .stuck).bind f) := p
    rw [assoc] at p
    refine step r p fun d ρ1 v H1 Hf1 r1 s1 dn1 p1 => ?_
    rw [assoc] at p1
    refine step r1 p1 fun d2 ρ2 v2 H2 Hf2 r2 s2 dn2 p2 => ?_
    dsimp only at p2
    have t1 := Top.of_den r2.sub (Den.mono s2 _ _ dn1)
    have t2 := Top.of_den r2.sub dn2
    refine ⟨F, ρ2, σ, Hf2, d, d2, r2, t1, t2, ?_⟩
    cases q : cmpD o d d2 with
    | none => rw [q] at p2; exact p2.elim
    | some z =>
      rw [q] at p2
      cases z with
      | bl b =>
        cases b with
        | true =>
          intro vv H' Hf' r' s' dn'
          refine ⟨true, dn', ?_⟩
          have p2 : Post (ctx X) F W σ dnZ Q2 Hf2 (((ev mc ρ2).bind fun z => opt (cmpD o' d2 z.1) z.2).bind f) := p2
          rw [assoc] at p2
          refine step r' (Post.mono s' p2) fun d3 ρ3 v3 H3 Hf3 r3 s3 dn3 p3 => ?_
          exact ⟨F, ρ3, σ, Hf3, d2, d3, r3, Top.of_den r3.sub (Den.mono (s'.trans s3) _ _ dn2), Top.of_den r3.sub dn3, k _ (((s1.trans s2).trans s').trans s3) p3⟩
        | false =>
          intro vv H' Hf' r' s' dn'
          refine ⟨false, dn', ?_⟩
          have p2 : Post (ctx X) F W σ dnZ Q2 Hf2 ((opt (some (.bl false)) ρ2).bind f) := p2
          exact k _ (s1.trans s2) p2 _ H' Hf' r' s' rfl
      | _ => exact p2.elim
  have bid : ∀ {α : Type} (o : Out Rho α), o.bind .ok = o := fun o => by cases o <;> rfl
  have h1 : PE X (.Compare ea [cmOp o, cmOp o'] [eb, ec] pos) (tv (ctx X) W (ev (.chn o o' ma mb mc))) := by
    refine PE.mono (pe_chain (op_cm (W := W) hu o) (op_cm (W := W) hu o') ha.pe hb.pe hc.pe hm) fun σ H Q ⟨F, ρ, Hf, r, p⟩ => ?_
    refine core (f := .ok) r (by rw [bid]; exact p) fun Hf' s ρ' d p' => ?_
    rw [bid] at p'
    exact p'
  refine ⟨h1, pp_of h1 (fun i z => nomatch z), ?_⟩
  refine PT.mono (pt_chain (op_cm (W := W) hu o) (op_cm (W := W) hu o') ha.pe hb.pe hc.pe hm) fun σ H Q ⟨F, ρ, Hf, r, p⟩ => ?_
  have p : Post (ctx X) F W σ (dI σ) Q Hf ((ev (.chn o o' ma mb mc) ρ).bind fun x => (match x.1 with | .bl b => .ok (b, x.2) | _ => .stuck : Out Rho (Bool × Rho))) := p
  show tChain _ _ _ _ _ σ H fun x H1 => ∃ c, x = .bl c ∧ Q c H1
  refine core r p fun Hf' s ρ' d p' => ?_
  cases d with
  | none => exact p'.elim
  | some d =>
    cases d with
    | bl b =>
      intro v H' Hf2 r2 s2 dn
      exact ⟨b, dn, p' b H' Hf2 r2 s2 rfl⟩
    | _ => exact p'.elim
/-! ### items -/
theorem ixD_atI {α : Type} (l : List α) (i : Int) : ixD l i = atI l i := by
  unfold ixD atI ixN
  by_cases h : 0 ≤ i
  · rw [if_pos h, if_pos h]
    by_cases h2 : i < l.length
    · rw [if_pos h2]
      rfl
    · rw [if_neg h2, List.getElem?_eq_none (by omega)]
      rfl
  · rw [if_neg h, if_neg h]
    by_cases h2 : -(l.length : Int) ≤ i
    · rw [if_pos h2, if_pos h2]
      rfl
    · rw [if_neg h2, if_neg h2]
      rfl
theorem ixD_den {c : Ct} {Hf : Hp} {l : List D} {vs : List V} {i : Int} {d : D} (h : Dens c Hf l vs) (e : ixD l i = some d) : ∃ v, atI vs i = some v ∧ Den c Hf d v := by
  rw [ixD_atI] at e
  unfold atI at e ⊢
  rw [← Dens.length h]
  cases q : ixN l.length i with
  | none => rw [q] at e; cases e
  | some j =>
    rw [q] at e
    exact Dens.get h e
theorem ix_X (hu : X.A.units + 65 < cLine) : IxR X (rOp (ctx X) W idxD) := by
  intro value slice pins s σ0 H x y v u Q I rx ry ⟨F, ρ, σ, Hf, p, q, r, tp, tq, po⟩ hs
  cases p with
  | lst l =>
    cases q with
    | int i =>
      obtain ⟨a, vs, rfl, h1, h2⟩ := tp
      replace po : Post (ctx X) F W σ (dE (ctx X) σ) Q Hf (opt (ixD l i) ρ) := po
      cases z : ixD l i with
      | none => rw [z] at po; exact po.elim
      | some d =>
        rw [z] at po
        obtain ⟨w, e1, e2⟩ := ixD_den h2 z
        exact ix_list value slice pins s σ0 H _ y v u Q I rx ry ⟨a, vs, i, w, rfl, tq, SqL.of h1, e1, po _ _ _ r (Same.refl _) e2⟩ hs
    | _ => exact po.elim
  | tup l =>
    cases q with
    | int i =>
      obtain ⟨a, vs, rfl, h1, h2⟩ := (show Den _ _ _ _ from tp)
      replace po : Post (ctx X) F W σ (dE (ctx X) σ) Q Hf (opt (ixD l i) ρ) := po
      cases z : ixD l i with
      | none => rw [z] at po; exact po.elim
      | some d =>
        rw [z] at po
        obtain ⟨w, e1, e2⟩ := ixD_den h2 z
        exact ix_tup value slice pins s σ0 H _ y v u Q I rx ry ⟨a, vs, i, w, rfl, tq, Same.seqT r.sub h1, e1, po _ _ _ r (Same.refl _) e2⟩ hs
    | _ => exact po.elim
  | scr l =>
    cases q with
    | int i =>
      obtain ⟨a, rfl, h1⟩ := (show Den _ _ _ _ from tp)
      replace po : Post (ctx X) F W σ (dE (ctx X) σ) Q Hf (opt ((ixD l i).map .int) ρ) := po
      cases z : ixD l i with
      | none => rw [z] at po; exact po.elim
      | some d =>
        rw [z] at po
        have e1 : atI (l.map V.int) i = some (.int d) := by
          rw [ixD_atI] at z
          unfold atI at z ⊢
          rw [List.length_map]
          cases q : ixN l.length i with
          | none => rw [q] at z; cases z
          | some j =>
            rw [q] at z
            show (l.map V.int)[j]? = _
            rw [List.getElem?_map, show l[j]? = some d from z]
            rfl
        exact ix_list value slice pins s σ0 H _ y v u Q I rx ry ⟨a, _, i, _, rfl, tq, L2.Same.seq r.sub h1, e1, po _ _ _ r (Same.refl _) rfl⟩ hs
    | _ => exact po.elim
  | str l =>
    cases q with
    | int i =>
      obtain ⟨rfl, g⟩ := (show Den _ _ _ _ from tp)
      replace po : Post (ctx X) F W σ (dE (ctx X) σ) Q Hf (opt ((ixD l i).map fun c => .str [c]) ρ) := po
      cases z : ixD l i with
      | none => rw [z] at po; exact po.elim
      | some d =>
        rw [z] at po
        have hm : d ∈ l := by
          rw [ixD_atI] at z
          unfold atI at z
          cases q : ixN l.length i with
          | none => rw [q] at z; cases z
          | some j => rw [q] at z; exact List.mem_of_getElem? z
        refine ix_str value slice pins s σ0 H _ y v u Q I rx ry ⟨_, i, d, rfl, tq, ?_, ?_, po _ _ _ r (Same.refl _) ⟨rfl, ?_, ?_⟩⟩ hs
        · rw [sizeLine_eq]
          simpa [Str.length] using g.1
        · rw [ixD_atI] at z
          simpa using z
        · show 1 ≤ 16777216
          decide
        · intro x hx
          have : x = d := by simpa using hx
          rw [this]
          exact g.2 d hm
    | _ => exact po.elim
  | dic ks ds =>
    replace po : Post (ctx X) F W σ (dE (ctx X) σ) Q Hf (opt (if q.tkey then keyAt q ks ds else none) ρ) := by
      cases q <;> exact po
    split at po
    · rename_i hz
      obtain ⟨a, xs, rfl, h1, h2, h3, h4⟩ := tp
      cases rx
      have dp : Den (ctx X) Hf q y := by
        cases q <;> first | exact tq | (simp [D.tkey] at hz; done)
      obtain ⟨nk, b, e1, rfl, hk⟩ := key_is I r.sub hz dp
      cases ry
      obtain ⟨ys, w1, w2, w3, w4⟩ := dict_at I r.sub h1 h2 h3
      have g := dict_get (X := X) (Hf := Hf) w2 (k := q) h2.1 h4 e1
      cases z : keyAt q ks ds with
      | none => rw [z] at po; exact po.elim
      | some d =>
        rw [z] at po g
        obtain ⟨v', u', g1, g2, g3⟩ := g
        exact tail_any w1.typeIs PySem.F.slot_dict_getitem.lookup (getItem_keyed (knd := nestedKind X.prog X.w) (by show X.A.units + 1 + 8 < cLine; omega) hk ⟨ys, w1, rfl⟩ g1 ⟨v', H, I.tok _, g2, po _ _ _ r (Same.refl _) g3⟩) hs
    · exact po.elim
  | _ => cases q <;> exact po.elim
theorem s_idx {ea eb : Expr} (hu : X.A.units + 65 < cLine) (ha : Snd X W ea ma) (hb : Snd X W eb mb) (hp : PlainIx eb) : Snd X W (.Subscript ea eb pos) (.idx ma mb) := by
  refine Snd.of (PE.mono (pe_ix (ix_X (W := W) hu) ha.pp hb.pp hp) fun σ H Q ⟨F, ρ, Hf, r, p⟩ => ?_) (fun i z => nomatch z) (fun _ => rfl)
  have p : Post (ctx X) F W σ (dE (ctx X) σ) Q Hf ((pre ma (ev ma) ρ).bind fun x => (pre mb (ev mb) x.2).bind fun y => match fin ma x.1 y.2, fin mb y.1 y.2 with
    | some p, some q => opt (idxD p q) y.2
    | _, _ => .stuck) := p
  refine step r p fun d ρ1 v H1 Hf1 r1 s1 dn1 p1 => ?_
  refine step r1 p1 fun d2 ρ2 v2 H2 Hf2 r2 s2 dn2 p2 => ?_
  dsimp only at p2
  split at p2
  · rename_i x y e1 e2
    exact ⟨F, ρ2, σ, Hf2, x, y, r2, top_fin r2 s2 dn1 e1, top_fin r2 (Same.refl _) dn2 e2, p2⟩
  · exact p2.elim
/-! ### slices -/
inductive SndO (X : Cx) (W : WX) : Option Expr → List ME → Prop where
  | none : SndO X W none []
  | some {e : Expr} {m : ME} (h : Snd X W e m) : SndO X W (some e) [m]
theorem SndO.po {o : Option Expr} {l : List ME} (h : SndO X W o l) : PO X o (tvG (ctx X) W dI (evPart l)) := by
  cases h with
  | none => exact ⟨fun pins s σ H Q I ⟨F, ρ, Hf, r, p⟩ => po_none.run pins s σ H Q I (p Option.none H Hf r (Same.refl _) rfl)⟩
  | @some e m h =>
    refine ⟨fun pins s σ H Q I ⟨F, ρ, Hf, r, p⟩ => (po_some h.pe).run pins s σ H Q I ?_⟩
    have p : Post (ctx X) F W σ (dI σ) Q Hf ((ev m ρ).bind fun x => (match x.1 with | .int i => .ok (Option.some i, x.2) | _ => .stuck : Out Rho (Option Int × Rho))) := p
    refine step r p fun d ρ' v H' Hf' r' s' dn p' => ?_
    cases d with
    | int i => exact ⟨i, dn, p' _ H' Hf' r' (Same.refl _) rfl⟩
    | _ => exact p'.elim
theorem cut_vs (vs : List V) (lo hi : Option Int) : cutV vs lo hi = cutD vs lo hi := rfl
theorem cut_den {c : Ct} {Hf : Hp} {l : List D} {vs : List V} (lo hi : Option Int) (h : Dens c Hf l vs) : Dens c Hf (cutD l lo hi) (cutV vs lo hi) := by
  unfold cutD cutV
  rw [Dens.length h]
  exact Dens.take _ (Dens.drop _ h)
def rSlX (c : Ct) (W : WX) : V → Option Int → Option Int → Hp → VK → Prop := fun x lo hi H Q => ∃ F ρ σ Hf p, R c F ρ σ H Hf ∧ Top c Hf H p x ∧ Post c F W σ (dE c σ) Q Hf (opt (slD p lo hi) ρ)
theorem cut_all {α : Type} {l : List α} {lo hi : Option Int} (h : HT.sIx l.length 0 lo = 0 ∧ HT.sIx l.length l.length hi = l.length) : cutD l lo hi = l := by
  unfold cutD
  rw [h.1, h.2]
  simp
theorem sl_X : SlR X (rSlX (ctx X) W) := by
  intro pins s σ0 H x v vl vu lo hi sl Q I rx hs pl pu ⟨F, ρ, σ, Hf, p, r, tp, po⟩
  cases p with
  | lst l =>
    obtain ⟨a, vs, rfl, h1, h2⟩ := tp
    replace po : Post (ctx X) F W σ (dE (ctx X) σ) Q Hf (.ok (.lst (cutD l lo hi), ρ)) := po
    refine sl_list pins s σ0 H _ v vl vu lo hi sl Q I rx hs pl pu ⟨a, vs, rfl, SqL.of h1, fun t ht => ?_⟩
    obtain ⟨r2, s2⟩ := r.alloc ht (.lst (cutV vs lo hi))
    exact po _ _ _ r2 s2 ⟨t, _, rfl, upd_same, Dens.mono s2 _ _ (cut_den lo hi h2)⟩
  | tup l =>
    obtain ⟨a, vs, rfl, h1, h2⟩ := (show Den _ _ _ _ from tp)
    replace po : Post (ctx X) F W σ (dE (ctx X) σ) Q Hf (.ok (.tup (cutD l lo hi), ρ)) := po
    refine sl_tupA pins s σ0 H _ v vl vu lo hi sl Q I rx hs pl pu ⟨a, vs, rfl, Same.seqT r.sub h1, fun e => ?_, fun e t ht => ?_⟩
    · rw [← Dens.length h2] at e
      rw [cut_all e] at po
      exact po _ _ _ r (Same.refl _) ⟨a, vs, rfl, h1, h2⟩
    · obtain ⟨r2, s2⟩ := r.alloc ht (.tup (cutV vs lo hi))
      exact po _ _ _ r2 s2 ⟨t, _, rfl, .inl (.inl upd_same), Dens.mono s2 _ _ (cut_den lo hi h2)⟩
  | scr l =>
    obtain ⟨a, rfl, h1⟩ := (show Den _ _ _ _ from tp)
    replace po : Post (ctx X) F W σ (dE (ctx X) σ) Q Hf (.ok (.lst ((cutD l lo hi).map .int), ρ)) := po
    refine sl_list pins s σ0 H _ v vl vu lo hi sl Q I rx hs pl pu ⟨a, _, rfl, L2.Same.seq r.sub h1, fun t ht => ?_⟩
    obtain ⟨r2, s2⟩ := r.alloc ht (.lst (cutV (l.map V.int) lo hi))
    refine po _ _ _ r2 s2 ⟨t, _, rfl, upd_same, ?_⟩
    have e1 : cutV (l.map V.int) lo hi = (cutD l lo hi).map V.int := by
      unfold cutV cutD
      rw [List.length_map, List.map_take, List.map_drop]
    rw [e1]
    have key : ∀ l : List Int, Dens (ctx X) (upd Hf t (.lst (cutV (l.map V.int) lo hi))) (l.map D.int) (l.map V.int) := fun l => by
      suffices ∀ (H : Hp) (l : List Int), Dens (ctx X) H (l.map D.int) (l.map V.int) from this _ l
      intro H l
      induction l with
      | nil => rfl
      | cons x l ih => exact ⟨_, _, rfl, rfl, ih⟩
    have key2 : ∀ (H : Hp) (l : List Int), Dens (ctx X) H (l.map D.int) (l.map V.int) := fun H l => by
      induction l with
      | nil => rfl
      | cons x l ih => exact ⟨_, _, rfl, rfl, ih⟩
    exact key2 _ _
  | str l =>
    obtain ⟨rfl, g⟩ := (show Den _ _ _ _ from tp)
    replace po : Post (ctx X) F W σ (dE (ctx X) σ) Q Hf (.ok (.str (cutD l lo hi), ρ)) := po
    refine sl_str pins s σ0 H _ v vl vu lo hi sl Q I rx hs pl pu ⟨_, rfl, ?_, po _ _ _ r (Same.refl _) ⟨?_, ?_, ?_⟩⟩
    · rw [sizeLine_eq]
      simpa [Str.length] using g.1
    · unfold cutS cutD
      simp [Str.length]
    · unfold cutD
      rw [List.length_take, List.length_drop]
      have := g.1
      omega
    · intro x hx
      unfold cutD at hx
      exact g.2 x (List.mem_of_mem_drop (List.mem_of_mem_take hx))
  | _ => exact po.elim
theorem s_sl {ea : Expr} {lo hi : Option Expr} {ml mh : List ME} {p2 : Pos} (ha : Snd X W ea ma) (hl : SndO X W lo ml) (hh : SndO X W hi mh) : Snd X W (.Subscript ea (.Slice lo hi none p2) pos) (.sl ma ml mh) := by
  refine Snd.of (PE.mono (pe_slice (sl_X (W := W)) ha.pp hl.po hh.po) fun σ H Q ⟨F, ρ, Hf, r, p⟩ => ?_) (fun i z => nomatch z) (fun _ => rfl)
  have p : Post (ctx X) F W σ (dE (ctx X) σ) Q Hf ((pre ma (ev ma) ρ).bind fun x => (evPart ml x.2).bind fun y => (evPart mh y.2).bind fun z => match fin ma x.1 z.2 with
    | some p => opt (slD p y.1 z.1) z.2
    | none => .stuck) := p
  refine step r p fun d ρ1 v H1 Hf1 r1 s1 dn1 p1 => ?_
  refine step r1 p1 fun d2 ρ2 v2 H2 Hf2 r2 s2 dn2 p2 => ?_
  subst dn2
  refine step r2 p2 fun d3 ρ3 v3 H3 Hf3 r3 s3 dn3 p3 => ?_
  subst dn3
  dsimp only at p3
  split at p3
  · rename_i x e1
    exact ⟨F, ρ3, σ, Hf3, x, r3, top_fin r3 (s2.trans s3) dn1 e1, p3⟩
  · exact p3.elim
end
end NV

/-! NV.H: built-ins of one argument, isinstance, fields, dict.get, join. -/
namespace NV
open PySem PySem.Spec PyProof.Rows L2

/-- the class Machine's facts, or it is not there -/
structure MachAt (c : Ct) (C : Addr) : Prop where
  mg : c.mg (Str.ofString "Machine") = some (.ref C)
  cl : Cls c.K C
  ha : PySem.W.findIn c.K (.ref C) "__class__" = some (some (.builtin "object.__class__"))
  hn : PySem.W.specialIn c.K (.builtin "object.__class__") "__get__" = some (some (.builtin "getset_descriptor.__get__"))
  htk : PySem.W.takesIn c.K (.builtin "object.__class__") = some true
  hm : PySem.W.mroIn c.K C (.type "object") = some true
  k1 : ∀ t ∈ tyL, PySem.W.kitOne c.K (.ref C) (.type t) = some false
  k2 : ∀ n ∈ ["NoneType", "bool", "int", "str", "list", "tuple", "dict"], PySem.W.kitOne c.K (.type n) (.ref C) = some false
  fl : ∀ f ∈ flds "Machine", NoAttr c.K C f
def MachOk (c : Ct) : Prop := c.mg (Str.ofString "Machine") = none ∨ ∃ C, MachAt c C
section
variable {X : Cx} {W : WX} {e a b : Expr} {m ma mb mc : ME} {pos : Pos}
/-- a built-in of one argument, by its data -/
def rB1 (c : Ct) (W : WX) (f : D → Option D) : List V → Hp → VK → Prop := fun xs H Q => ∃ F ρ σ Hf p x, xs = [x] ∧ R c F ρ σ H Hf ∧ Top c Hf H p x ∧ Post c F W σ (dE c σ) Q Hf (opt (f p) ρ)
theorem call_lenX : CallR X (.builtin "len") (rB1 (ctx X) W (b1D .len)) := by
  intro pins s σ0 H xs us Q I rv ⟨F, ρ, σ, Hf, p, x, ex, r, tp, po⟩
  subst ex
  have sz := sizeLine_eq
  cases p with
  | str l =>
    obtain ⟨rfl, g⟩ := (show Den _ _ _ _ from tp)
    refine call_len pins s σ0 H _ us Q I rv ⟨_, l.length, rfl, ⟨?_, ?_⟩, po _ _ _ r (Same.refl _) rfl⟩
    · rw [sz]; simpa [Str.length] using g.1
    · simp [Str.length]
  | lst l =>
    obtain ⟨a, vs, rfl, h1, h2⟩ := tp
    exact call_len pins s σ0 H _ us Q I rv ⟨_, l.length, rfl, .inl ⟨vs, SqL.of h1, Dens.length h2⟩, po _ _ _ r (Same.refl _) rfl⟩
  | tup l =>
    obtain ⟨a, vs, rfl, h1, h2⟩ := (show Den _ _ _ _ from tp)
    exact call_len pins s σ0 H _ us Q I rv ⟨_, l.length, rfl, .inr ⟨vs, Same.seqT r.sub h1, Dens.length h2⟩, po _ _ _ r (Same.refl _) rfl⟩
  | scr l =>
    obtain ⟨a, rfl, h1⟩ := (show Den _ _ _ _ from tp)
    exact call_len pins s σ0 H _ us Q I rv ⟨_, l.length, rfl, .inl ⟨_, L2.Same.seq r.sub h1, by simp⟩, po _ _ _ r (Same.refl _) rfl⟩
  | dic ks ds =>
    obtain ⟨a, xs, rfl, h1, h2, h3, h4⟩ := tp
    obtain ⟨u, rfl, ru⟩ := vals1 rv
    cases ru
    obtain ⟨ys, w1, w2, w3, w4⟩ := dict_at I r.sub h1 h2 h3
    have e1 : xs.length = ks.length := by
      have := Dens.length h3
      rw [List.length_map] at this
      exact this.symm
    have e2 : (pairsH ys).length = ks.length := by
      rw [pairsH_length, ← e1]
      exact (paired_len w2).symm
    have e3 : ys.length = ks.length := by rw [← e2, pairsH_length]
    refine call_len_slot (n := (ys.length : Int)) w1.typeIs PySem.F.slot_dict_len (fun Q' hq => len_keyed w3 ⟨ys, w1, rfl⟩ (by rw [pairsH_length]; exact hq)) (by omega) (by omega) ?_
    refine ⟨.int ys.length, H, I.tok _, ⟨_, rfl⟩, ?_⟩
    rw [e3]
    exact po _ _ _ r (Same.refl _) rfl
  | _ => exact po.elim
theorem allBl_den {c : Ct} {Hf : Hp} : ∀ {l : List D} {vs : List V} {bs : List Bool}, allBl l = some bs → Dens c Hf l vs → vs = bs.map V.bl
  | [], vs, bs, e, h => by
    cases h
    cases e
    rfl
  | d :: l, vs, bs, e, h => by
    obtain ⟨v, r, rfl, h1, h2⟩ := h
    cases d with
    | bl b =>
      have e : (allBl l).map (b :: ·) = some bs := e
      cases q : allBl l with
      | none => rw [q] at e; cases e
      | some bs' =>
        rw [q] at e
        cases e
        rw [allBl_den q h2]
        cases h1
        rfl
    | _ => cases e
theorem call_allX (hc : X.calm = true) : CallR X (.builtin "all") (rB1 (ctx X) W (b1D .all)) := by
  intro pins s σ0 H xs us Q I rv ⟨F, ρ, σ, Hf, p, x, ex, r, tp, po⟩
  subst ex
  cases p with
  | lst l =>
    obtain ⟨a, vs, rfl, h1, h2⟩ := tp
    replace po : Post (ctx X) F W σ (dE (ctx X) σ) Q Hf (opt ((allBl l).map fun bs => .bl (bs.all id)) ρ) := po
    cases q : allBl l with
    | none => rw [q] at po; exact po.elim
    | some bs =>
      rw [q] at po
      exact cr_all hc pins s σ0 H _ us Q I rv ⟨a, bs, rfl, SqL.of (by rw [← allBl_den q h2]; exact h1), po _ _ _ r (Same.refl _) rfl⟩
  | _ => exact po.elim
theorem call_anyX (hc : X.calm = true) : CallR X (.builtin "any") (rB1 (ctx X) W (b1D .any)) := by
  intro pins s σ0 H xs us Q I rv ⟨F, ρ, σ, Hf, p, x, ex, r, tp, po⟩
  subst ex
  cases p with
  | lst l =>
    obtain ⟨a, vs, rfl, h1, h2⟩ := tp
    replace po : Post (ctx X) F W σ (dE (ctx X) σ) Q Hf (opt ((allBl l).map fun bs => .bl (bs.any id)) ρ) := po
    cases q : allBl l with
    | none => rw [q] at po; exact po.elim
    | some bs =>
      rw [q] at po
      exact cr_any hc pins s σ0 H _ us Q I rv ⟨a, bs, rfl, SqL.of (by rw [← allBl_den q h2]; exact h1), po _ _ _ r (Same.refl _) rfl⟩
  | _ => exact po.elim
theorem call_intX : CallR X (.type "int") (rB1 (ctx X) W (b1D .int)) := by
  intro pins s σ0 H xs us Q I rv ⟨F, ρ, σ, Hf, p, x, ex, r, tp, po⟩
  subst ex
  cases p with
  | int i =>
    cases tp
    exact call_int1 pins s σ0 H _ us Q I rv (.inl ⟨i, rfl, po _ _ _ r (Same.refl _) rfl⟩)
  | bl b =>
    cases tp
    exact call_int1 pins s σ0 H _ us Q I rv (.inr ⟨b, rfl, po _ _ _ r (Same.refl _) rfl⟩)
  | _ => exact po.elim
theorem call_tupleX : CallR X (.type "tuple") (rB1 (ctx X) W (b1D .tuple)) := by
  intro pins s σ0 H xs us Q I rv ⟨F, ρ, σ, Hf, p, x, ex, r, tp, po⟩
  subst ex
  cases p with
  | lst l =>
    obtain ⟨a, vs, rfl, h1, h2⟩ := tp
    refine call_tuple_of pins s σ0 H _ us Q I rv ⟨a, vs, rfl, .inl ⟨SqL.of h1, fun t ht => ?_⟩⟩
    obtain ⟨r2, s2⟩ := r.alloc ht (.tup vs)
    exact po _ _ _ r2 s2 ⟨t, vs, rfl, .inl (.inl upd_same), Dens.mono s2 _ _ h2⟩
  | tup l =>
    obtain ⟨a, vs, rfl, h1, h2⟩ := (show Den _ _ _ _ from tp)
    exact call_tuple_of pins s σ0 H _ us Q I rv ⟨a, vs, rfl, .inr ⟨Same.seqT r.sub h1, po _ _ _ r (Same.refl _) ⟨a, vs, rfl, h1, h2⟩⟩⟩
  | _ => exact po.elim
/-- list(..): a new list -/
def rB1F (c : Ct) (W : WX) (f : D → Option D) : List V → Hp → VK → Prop := fun xs H Q => ∃ F ρ σ Hf p x, xs = [x] ∧ R c F ρ σ H Hf ∧ Top c Hf H p x ∧ PostF c F W σ Q Hf (opt (f p) ρ)
theorem ints_den {c : Ct} (H : Hp) (l : List Int) : Dens c H (l.map D.int) (l.map V.int) := by
  induction l with
  | nil => rfl
  | cons x l ih => exact ⟨_, _, rfl, rfl, ih⟩
theorem call_listX : CallR X (.type "list") (rB1F (ctx X) W fun d => match d with | .lst l => some (.lst l) | .tup l => some (.lst l) | .scr l => some (.lst (l.map .int)) | _ => none) := by
  intro pins s σ0 H xs us Q I rv ⟨F, ρ, σ, Hf, p, x, ex, r, tp, po⟩
  subst ex
  cases p with
  | lst l =>
    obtain ⟨a, vs, rfl, h1, h2⟩ := tp
    exact call_list_of pins s σ0 H _ us Q I rv ⟨a, vs, rfl, .inl (SqL.of h1), fun t ht => PostF.new r po ht ⟨(r.free ht).1, vs, upd_same, h2⟩⟩
  | tup l =>
    obtain ⟨a, vs, rfl, h1, h2⟩ := (show Den _ _ _ _ from tp)
    exact call_list_of pins s σ0 H _ us Q I rv ⟨a, vs, rfl, .inr (Same.seqT r.sub h1), fun t ht => PostF.new r po ht ⟨(r.free ht).1, vs, upd_same, h2⟩⟩
  | scr l =>
    obtain ⟨a, rfl, h1⟩ := (show Den _ _ _ _ from tp)
    exact call_list_of pins s σ0 H _ us Q I rv ⟨a, _, rfl, .inl (L2.Same.seq r.sub h1), fun t ht => PostF.new r po ht ⟨(r.free ht).1, _, upd_same, ints_den _ _⟩⟩
  | _ => exact po.elim
/-- the argument of such a call -/
theorem s_b1arg {b : B1} (h : SndL X W [e] [m]) : ∀ σ H Q, tv (ctx X) W (ev (.b1 b m)) σ H Q → tCB (rB1 (ctx X) W (b1D b)) (tvG (ctx X) W (dPs (ctx X) [m]) (pres [m])) σ H Q := fun σ H Q ⟨F, ρ, Hf, r, p⟩ => by
  have p : Post (ctx X) F W σ (dE (ctx X) σ) Q Hf ((pre m (ev m) ρ).bind fun x => match fin m x.1 x.2 with
    | some d => opt (b1D b d) x.2
    | none => .stuck) := p
  have e1 : ((pre m (ev m) ρ).bind fun x => match fin m x.1 x.2 with | some d => opt (b1D b d) x.2 | none => .stuck) = (pres [m] ρ).bind fun y => match finL [m] y.1 y.2 with | some [d] => opt (b1D b d) y.2 | _ => .stuck := by
    show _ = ((pre m (ev m) ρ).bind fun x => (Out.ok ([], x.2)).bind fun y => .ok (x.1 :: y.1, y.2)).bind _
    cases pre m (ev m) ρ with
    | stuck => rfl
    | exc _ _ => rfl
    | ok x =>
      show (match fin m x.1 x.2 with | some d => opt (b1D b d) x.2 | none => .stuck) = (match finL [m] [x.1] x.2 with | some [d] => opt (b1D b d) x.2 | _ => .stuck)
      unfold finL
      cases fin m x.1 x.2 <;> rfl
  rw [e1] at p
  refine step r p fun os ρ' vs H' Hf' r' s' dn p' => ?_
  dsimp only at p'
  split at p'
  · rename_i d e2
    cases tops_finL r' (Same.refl _) dn e2 with
    | cons t1 t2 =>
      cases t2
      exact ⟨F, ρ', σ, Hf', d, _, rfl, r', t1, p'⟩
  · exact p'.elim
theorem s_b1F {b : B1} {f : D → Option D} (hf : ∀ d d', b1D b d = some d' → f d = some d') (h : SndL X W [e] [m]) (hb : ∀ d, b1D b d ≠ none → f d ≠ none) : ∀ σ H Q, tvF (ctx X) W (ev (.b1 b m)) σ H Q → tCB (rB1F (ctx X) W f) (tvG (ctx X) W (dPs (ctx X) [m]) (pres [m])) σ H Q := fun σ H Q ⟨F, ρ, Hf, r, p⟩ => by
  have e1 : ev (.b1 b m) ρ = (pres [m] ρ).bind fun y => match finL [m] y.1 y.2 with | some [d] => opt (b1D b d) y.2 | _ => .stuck := by
    show ((pre m (ev m) ρ).bind fun x => match fin m x.1 x.2 with | some d => opt (b1D b d) x.2 | none => .stuck) = ((pre m (ev m) ρ).bind fun x => (Out.ok ([], x.2)).bind fun y => .ok (x.1 :: y.1, y.2)).bind _
    cases pre m (ev m) ρ with
    | stuck => rfl
    | exc _ _ => rfl
    | ok x =>
      show (match fin m x.1 x.2 with | some d => opt (b1D b d) x.2 | none => .stuck) = (match finL [m] [x.1] x.2 with | some [d] => opt (b1D b d) x.2 | _ => .stuck)
      unfold finL
      cases fin m x.1 x.2 <;> rfl
  rw [e1] at p
  refine stepF r p fun os ρ' vs H' Hf' r' s' dn p' => ?_
  dsimp only at p'
  split at p'
  · rename_i d e2
    cases tops_finL r' (Same.refl _) dn e2 with
    | cons t1 t2 =>
      cases t2
      refine ⟨F, ρ', σ, Hf', d, _, rfl, r', t1, ?_⟩
      cases q : b1D b d with
      | none => rw [q] at p'; exact p'.elim
      | some d' =>
        rw [q] at p'
        rw [hf d d' q]
        exact p'
  · exact p'.elim
/-- the built-ins that are served, and how they are called -/
theorem s_b1 {b : B1} {p : Pos} {nm : Str} {id : String} (h : SndL X W [e] [m]) (hc : CallR X (.builtin id) (rB1 (ctx X) W (b1D b))) (hg : Gl X nm) (hm : X.mg nm = none) (hv : bootBuiltins nm = some (.builtin id))
    (hn : nm ≠ "__name__") (hd : (nm == ("__debug__" : Str)) = false) (he : starEach [e] X.env = (false, eval e X.env) :: starEach [] X.env) : Snd X W (.Call (.Name nm p) [e] [] pos) (.b1 b m) :=
  Snd.of (PE.mono (pe_callB hc hg hm hv h.pps hn hd he) (s_b1arg h)) (fun i z => nomatch z) (fun _ => rfl)
theorem s_b1T {b : B1} {p : Pos} {nm : Str} {T : String} (h : SndL X W [e] [m]) (hc : CallR X (.type T) (rB1 (ctx X) W (b1D b))) (hg : Gl X nm) (hm : X.mg nm = none) (hv : bootBuiltins nm = some (.type T))
    (hn : nm ≠ "__name__") (hd : (nm == ("__debug__" : Str)) = false) (he : starEach [e] X.env = (false, eval e X.env) :: starEach [] X.env) : Snd X W (.Call (.Name nm p) [e] [] pos) (.b1 b m) :=
  Snd.of (PE.mono (pe_callTy hc hg hm hv h.pps hn hd he) (s_b1arg h)) (fun i z => nomatch z) (fun _ => rfl)
/-! ### isinstance -/
theorem kit_all : ∀ n ∈ ["NoneType", "bool", "int", "str", "list", "tuple", "dict"], ∀ t ∈ tyL, kitB n t = some (isiB n t) := by decide +kernel
def rIsX (c : Ct) (W : WX) (t : String) (tv : V) : List V → Hp → VK → Prop := fun xs H Q => ∃ F ρ σ Hf p x, xs = [x, tv] ∧ R c F ρ σ H Hf ∧ Top c Hf H p x ∧ Post c F W σ (dE c σ) Q Hf (opt ((isiD p t).map .bl) ρ)
theorem isi_core (hM : MachOk (ctx X)) {t : String} {cv : V} {cu : Value} (hc : ClsV cv cu)
    (hk : (t ∈ tyL ∧ cu = .type t) ∨ (t = "Machine" ∧ ∃ C, MachAt (ctx X) C ∧ cu = .ref C)) : CallR X (.builtin "isinstance") (rIsX (ctx X) W t cv) := by
  intro pins s σ0 H xs us Q I rv ⟨F, ρ, σ, Hf, p, x, ex, r, tp, po⟩
  subst ex
  have base : ∀ {n : String}, tyN p = some n → n ∈ ["NoneType", "bool", "int", "str", "list", "tuple", "dict"] → ∃ b, PySem.W.kitOne X.K (.type n) cu = some b ∧ (∀ (H' : Hp), H' = H → Q (.bl b) H') := fun {n} hn hm => by
    have e1 : isiD p t = if t = "Machine" then some false else if t ∈ tyL then some (isiB n t) else none := by
      cases p <;> first | (cases hn; rfl) | cases hn
    rw [e1] at po
    rcases hk with ⟨ht, rfl⟩ | ⟨rfl, C, M, rfl⟩
    · have hne : t ≠ "Machine" := fun z => by
        subst z
        revert ht
        decide
      rw [if_neg hne, if_pos ht] at po
      exact ⟨_, kit_ty (kit_all n hm t ht), fun H' e => by subst e; exact po _ _ _ r (Same.refl _) rfl⟩
    · rw [if_pos rfl] at po
      exact ⟨_, M.k2 n hm, fun H' e => by subst e; exact po _ _ _ r (Same.refl _) rfl⟩
  have go : ∀ {n : String}, tyN p = some n → n ∈ ["NoneType", "bool", "int", "str", "list", "tuple", "dict"] → TyX X.K H x (.type n) → wpAny (model X.prog X.w) X.A (call (.builtin "isinstance") us) (EP X pins σ0 Q) X.xe s := fun {n} hn hm ty => by
    obtain ⟨b, e, q⟩ := base hn hm
    exact call_isi pins s σ0 H _ us Q I rv ⟨x, cv, _, cu, b, rfl, hc, ty, e, q _ rfl⟩
  cases p with
  | non => cases tp; exact go rfl (by decide) (.base .non)
  | bl b => cases tp; exact go rfl (by decide) (.base (.bl b))
  | int i => cases tp; exact go rfl (by decide) (.base (.int i))
  | str l => obtain ⟨rfl, _⟩ := (show Den _ _ _ _ from tp); exact go rfl (by decide) (.base (.str _))
  | lst l =>
    obtain ⟨a, vs, rfl, h1, h2⟩ := tp
    exact go rfl (by decide) (.base (.lst h1))
  | tup l =>
    obtain ⟨a, vs, rfl, h1, h2⟩ := (show Den _ _ _ _ from tp)
    refine go rfl (by decide) ?_
    rcases Same.seqT r.sub h1 with (h | ⟨o, h⟩) | ⟨o, its, n, hk, hc, _⟩
    · exact .base (.tup h)
    · exact .fTuple h
    · exact .kTuple hk hc
  | scr l =>
    obtain ⟨a, rfl, h1⟩ := (show Den _ _ _ _ from tp)
    refine go rfl (by decide) ?_
    rcases L2.Same.seq r.sub h1 with (h | ⟨o, h⟩) | ⟨o, its, n, hk, hc, _⟩
    · exact .base (.lst h)
    · exact .base (.frz h)
    · exact .kList hk hc
  | dic ks ds =>
    obtain ⟨a, xs, rfl, h1, h2, h3, h4⟩ := tp
    obtain ⟨b, e, q⟩ := base (n := "dict") rfl (by decide)
    obtain ⟨u1, u2, rfl, r1, r2⟩ := vals2 rv
    cases (show u1 = Value.ref a from r1)
    have e2 := hc.eq r2
    subst e2
    obtain ⟨⟨z1, z2, z3, ys, z4, o, es, ep, z5, z6, z7, z8⟩, _, _⟩ := (show ObjOk X.prog X.w H s.heap a (dHO (ctx X) a xs) from I.hok a _ h1)
    exact PySem.W.kia_one PySem.W.kitx_dict I.kIn ⟨o, z5, z6.1⟩ e (fun z => nomatch z) fun tk => ⟨.bl b, H, I.tok tk, rfl, q _ rfl⟩
  | adr a => exact po.elim
  | obj n l =>
    obtain ⟨a, C, dx, fs, rfl, h1, h2, h3, h4⟩ := tp
    have e1 : isiD (.obj n l) t = if n = "Machine" then (if t = "Machine" then some true else if t ∈ tyL then some false else none) else none := rfl
    rw [e1] at po
    split at po
    · rename_i hn
      subst hn
      rcases hM with hM | ⟨C2, M⟩
      · rw [hM] at h1
        cases h1
      · have := M.mg
        rw [h1] at this
        cases this
        have ty : TyX X.K H (.ref a) (.ref C) := .base (.ins h2 M.cl M.ha M.hn M.htk M.hm)
        rcases hk with ⟨ht, rfl⟩ | ⟨rfl, C3, M3, rfl⟩
        · have hne : t ≠ "Machine" := fun z => by
            subst z
            revert ht
            decide
          rw [if_neg hne, if_pos ht] at po
          exact call_isi pins s σ0 H _ us Q I rv ⟨_, cv, _, _, false, rfl, hc, ty, M.k1 t ht, po _ _ _ r (Same.refl _) rfl⟩
        · rw [if_pos rfl] at po
          have := M3.mg
          rw [h1] at this
          cases this
          have e : PySem.W.kitOne X.K (.ref C) (.ref C) = some true := by
            unfold PySem.W.kitOne
            rw [if_pos (by simp)]
          exact call_isi pins s σ0 H _ us Q I rv ⟨_, cv, _, _, true, rfl, hc, ty, e, po _ _ _ r (Same.refl _) rfl⟩
    · exact po.elim
theorem s_isi {p : Pos} {te : Expr} {t : String} {cv : V} {cu : Value} (hM : MachOk (ctx X)) (h : Snd X W e m) (ht : PE X te (tC cv)) (hc : ClsV cv cu) (hk : (t ∈ tyL ∧ cu = .type t) ∨ (t = "Machine" ∧ ∃ C, MachAt (ctx X) C ∧ cu = .ref C))
    (hg : Gl X "isinstance") (hm : X.mg "isinstance" = none) (he : starEach [e, te] X.env = [(false, eval e X.env), (false, eval te X.env)]) (he2 : starEach [te] X.env = [(false, eval te X.env)]) :
    Snd X W (.Call (.Name "isinstance" p) [e, te] [] pos) (.isi m t) := by
  have pa : PA X [e, te] (tCons (tP (ctx X) W m) (tCons (tC cv) tNil)) := pa_cons h.pp (pa_cons ht pa_nil (by rw [he2]; rfl)) (by rw [he, he2])
  refine Snd.of (PE.mono (pe_callB (isi_core (W := W) hM hc hk) hg hm boot_isinstance pa (by decide) (by decide) (by rw [he, he2]) (by rw [he2]; rfl)) fun σ H Q ⟨F, ρ, Hf, r, p⟩ => ?_) (fun i z => nomatch z) (fun _ => rfl)
  have p : Post (ctx X) F W σ (dE (ctx X) σ) Q Hf ((pre m (ev m) ρ).bind fun x => match fin m x.1 x.2 with
    | some d => opt ((isiD d t).map .bl) x.2
    | none => .stuck) := p
  refine step r p fun d ρ1 v H1 Hf1 r1 s1 dn1 p1 => ?_
  dsimp only at p1
  split at p1
  · rename_i d' e1
    exact ⟨F, ρ1, σ, Hf1, d', v, rfl, r1, top_fin r1 (Same.refl _) dn1 e1, p1⟩
  · exact p1.elim
end
end NV

/-! NV.I: fields, dict.get, constant dicts, join. -/
namespace NV
open PySem PySem.Spec PyProof.Rows L2

section
variable {X : Cx} {W : WX} {e a b : Expr} {m ma mb mc : ME} {pos : Pos}
theorem lookup_at {fs : List (Str × V)} {f : Str} {v : V} : ∀ {k : Nat}, (fs.map (·.1)).Nodup → (fs.map (·.1))[k]? = some f → (fs.map (·.2))[k]? = some v → fs.lookup f = some v := by
  induction fs with
  | nil => intro k _ h; simp at h
  | cons p fs ih =>
    intro k nd h1 h2
    obtain ⟨f', v'⟩ := p
    cases k with
    | zero =>
      simp at h1 h2
      subst h1 h2
      simp
    | succ k =>
      have nd : f' ∉ fs.map (·.1) ∧ (fs.map (·.1)).Nodup := List.nodup_cons.mp nd
      have h1 : (fs.map (·.1))[k]? = some f := by simpa using h1
      have hne : f ≠ f' := fun z => nd.1 (z ▸ List.mem_of_getElem? h1)
      have : (f == f') = false := by simpa using hne
      simp only [List.lookup_cons, this]
      exact ih nd.2 h1 (by simpa using h2)
/-- what the classes of the objects must have -/
def ClsOk (c : Ct) : Prop := ∀ (n : String) (C : Addr), flds n ≠ [] → c.mg (Str.ofString n) = some (.ref C) → Cls c.K C ∧ ∀ f ∈ flds n, NoAttr c.K C f
theorem s_fld {n : String} {k : Nat} {f : Str} (hC : ClsOk (ctx X)) (h : Snd X W e m) (hf : (flds n)[k]? = some f) (hnd : (flds n).Nodup) (hb : attributeBase e f X.env (eval e X.env) = eval e X.env)
    (he : ∀ whole, isTrue (.Attribute e f pos) X.env whole = (do let v ← whole; standAt (Expr.Attribute e f pos).pos; holding [v] (truthy v))) : Snd X W (.Attribute e f pos) (.fld n k m) := by
  refine Snd.of (PE.mono (pe_fld h.pp hb) fun σ H Q ⟨F, ρ, Hf, r, p⟩ => ?_) (fun i z => nomatch z) he
  have p : Post (ctx X) F W σ (dE (ctx X) σ) Q Hf ((pre m (ev m) ρ).bind fun x => match fin m x.1 x.2 with
    | some (.obj c' l) => if n = c' then opt l[k]? x.2 else .stuck
    | _ => .stuck) := p
  refine step r p fun d ρ1 v H1 Hf1 r1 s1 dn1 p1 => ?_
  dsimp only at p1
  split at p1
  · rename_i c' l e1
    split at p1
    · rename_i hc
      subst hc
      obtain ⟨a, C, dx, fs, rfl, h1, h2, h3, h4⟩ := (show Top _ _ _ (.obj n l) _ from top_fin r1 (Same.refl _) dn1 e1)
      cases q : l[k]? with
      | none => rw [q] at p1; exact p1.elim
      | some d' =>
        rw [q] at p1
        obtain ⟨w, w1, w2⟩ := Dens.get h4 q
        have hne : flds n ≠ [] := fun z => by rw [z] at hf; simp at hf
        obtain ⟨c1, c2⟩ := hC n C hne h1
        have hkl : k < l.length := (List.getElem?_eq_some_iff.mp q).1
        exact ⟨a, C, dx, fs, w, rfl, h2, c1, c2 f (List.mem_of_getElem? hf), lookup_at (by rw [h3]; exact hnd.sublist (List.take_sublist _ _)) (by rw [h3, List.getElem?_take, if_pos hkl]; exact hf) w1, p1 _ _ _ r1 (Same.refl _) w2⟩
    · exact p1.elim
  · exact p1.elim
/-! ### d.get(k, x) -/
theorem s_get {o k x : Expr} {mo mk mx : ME} {apos cpos : Pos} (hu : X.A.units + 65 < cLine) (ho : Snd X W o mo) (hk : Snd X W k mk) (hx : Snd X W x mx) (M : M2 X o "get" apos k x cpos) : Snd X W (.Call (.Attribute o "get" apos) [k, x] [] cpos) (.get mo mk mx) := by
  refine Snd.of ⟨fun pins s σ H Q I ⟨F, ρ, Hf, r, p⟩ => ?_⟩ (fun i z => nomatch z) (fun _ => rfl)
  have p : Post (ctx X) F W σ (dE (ctx X) σ) Q Hf ((pre mo (ev mo) ρ).bind fun x => match fin mo x.1 x.2 with
    | some (.dic _ _) => (ev mk x.2).bind fun y => (ev mx y.2).bind fun z => match fin mo x.1 z.2 with
      | some (.dic ks vs) => if y.1.tkey then .ok ((keyAt y.1 ks vs).getD z.1, z.2) else .stuck
      | _ => .stuck
    | _ => .stuck) := p
  have h1 : tP (ctx X) W mo σ H fun v H1 => ∃ F ρ1 Hf1 o, R (ctx X) F ρ1 σ H1 Hf1 ∧ dP (ctx X) mo σ o v Hf1 ∧ ∃ ks vs, fin mo o ρ1 = some (.dic ks vs) ∧ Post (ctx X) F W σ (dE (ctx X) σ) Q Hf1 ((ev mk ρ1).bind fun y => (ev mx y.2).bind fun z => match fin mo o z.2 with
      | some (.dic ks vs) => if y.1.tkey then .ok ((keyAt y.1 ks vs).getD z.1, z.2) else .stuck
      | _ => .stuck) := by
    refine step r p fun d ρ1 v H1 Hf1 r1 s1 dn1 p1 => ?_
    dsimp only at p1
    split at p1
    · rename_i ks vs e1
      exact ⟨F, ρ1, Hf1, d, r1, dn1, ks, vs, e1, p1⟩
    · exact p1.elim
  refine wpAny_Call_method M.base M.few M.line PySem.F.plainAttrs_dict PySem.F.slot_dict_get PySem.F.type_dict_get (thn (ho.pp.run pins s σ H _ I h1) fun u s1 ⟨v, H1, I1, rx, F, ρ1, Hf1, o, r1, dn1, ks, vs, e1, p1⟩ => ?_)
  obtain ⟨a, xs, rfl, t1, t2, t3, t4⟩ := (show Top _ _ _ (.dic ks vs) _ from top_fin r1 (Same.refl _) dn1 e1)
  cases rx
  obtain ⟨ys, w1, w2, w3, w4⟩ := dict_at I1 r1.sub t1 t2 t3
  refine ⟨w1.typeIs, fun b q => ?_, ?_⟩
  · cases q
    obtain ⟨ob, _, _, z1, z2, _⟩ := w1
    exact ⟨ob, z1, z2.2.1⟩
  rw [M.trees]
  have h2 : tv (ctx X) W (ev mk) σ H1 fun y H2 => ∃ F ρ2 Hf2 kd, R (ctx X) F ρ2 σ H2 Hf2 ∧ Den (ctx X) Hf2 kd y ∧ dP (ctx X) mo σ o (.ref a) Hf2 ∧ Post (ctx X) F W σ (dE (ctx X) σ) Q Hf2 ((ev mx ρ2).bind fun z => match fin mo o z.2 with
      | some (.dic ks vs) => if kd.tkey then .ok ((keyAt kd ks vs).getD z.1, z.2) else .stuck
      | _ => .stuck) := by
    refine step r1 p1 fun d ρ2 v H2 Hf2 r2 s2 dn2 p2 => ?_
    exact ⟨F, ρ2, Hf2, d, r2, dn2, dP.mono s2 dn1, p2⟩
  refine Calls.callWith_builtin rfl (Calls.evalArgs_plain (Calls.spliced_cons (thn (hk.pe.run pins s1 σ H1 _ I1 h2) fun iv s2 ⟨y, H2, I2, ry, F, ρ2, Hf2, kd, r2, dk, dn2, p2⟩ =>
    Calls.spliced_cons (thn (hx.pe.run pins s2 σ H2 (fun z H3 => ∃ F ρ3 Hf3 zd ks vs, R (ctx X) F ρ3 σ H3 Hf3 ∧ Den (ctx X) Hf3 kd y ∧ Den (ctx X) Hf3 zd z ∧ Top (ctx X) Hf3 H3 (.dic ks vs) (.ref a) ∧ kd.tkey = true ∧ Post (ctx X) F W σ (dE (ctx X) σ) Q Hf3 (.ok ((keyAt kd ks vs).getD zd, ρ3))) I2 ?_) fun fv s3 ⟨z, H3, I3, rz, F, ρ3, Hf3, zd, ks3, vs3, r3, dk3, dz, tp, htk, p3⟩ => Calls.spliced_nil ?_))))
  · refine step r2 p2 fun d ρ3 v H3 Hf3 r3 s3 dn3 p3 => ?_
    dsimp only at p3
    split at p3
    · rename_i ks3 vs3 e3
      split at p3
      · rename_i htk
        exact ⟨F, ρ3, Hf3, d, ks3, vs3, r3, Den.mono s3 _ _ dk, dn3, top_fin r3 s3 dn2 e3, htk, p3⟩
      · exact p3.elim
    · exact p3.elim
  · obtain ⟨a', xs3, q, t1, t2, t3, t4⟩ := tp
    cases q
    obtain ⟨nk, b, e4, rfl, hkk⟩ := key_is I3 r3.sub htk dk3
    cases ry
    obtain ⟨ys, w1, w2, w3, w4⟩ := dict_at I3 r3.sub t1 t2 t3
    have g := dict_get (X := X) (Hf := Hf3) w2 (k := kd) t2.1 t4 e4
    refine getOr_keyed (knd := nestedKind X.prog X.w) (by show X.A.units + 1 + 8 < cLine; omega) hkk w3 ⟨ys, w1, rfl⟩ ?_
    cases q : keyAt kd ks3 vs3 with
    | none =>
      rw [q] at g p3
      rw [g]
      exact ⟨z, H3, I3.tok _, rz, p3 _ _ _ r3 (Same.refl _) dz⟩
    | some d =>
      rw [q] at g p3
      obtain ⟨v', u', g1, g2, g3⟩ := g
      rw [g1]
      exact ⟨v', H3, I3.tok _, g2, p3 _ _ _ r3 (Same.refl _) g3⟩
/-! ### join -/
theorem joinL_eq (s : List Nat) : ∀ l, joinL s l = TL.joinL s l
  | [] => rfl
  | [_] => rfl
  | x :: y :: l => by
    show x ++ s ++ joinL s (y :: l) = x ++ (s ++ TL.joinL s (y :: l))
    rw [joinL_eq s (y :: l), List.append_assoc]
theorem allStr_den {c : Ct} {Hf : Hp} : ∀ {l : List D} {vs : List V} {ss : List (List Nat)}, allStr l = some ss → Dens c Hf l vs → vs = (ss.map fun s => (⟨s.toArray⟩ : Str)).map V.str ∧ ∀ s ∈ ss, strGood s
  | [], vs, bs, e, h => by
    cases h
    cases e
    exact ⟨rfl, fun _ h => by cases h⟩
  | d :: l, vs, bs, e, h => by
    obtain ⟨v, r, rfl, h1, h2⟩ := h
    cases d with
    | str b =>
      have e : (allStr l).map (b :: ·) = some bs := e
      cases q : allStr l with
      | none => rw [q] at e; cases e
      | some bs' =>
        rw [q] at e
        cases e
        obtain ⟨i1, i2⟩ := allStr_den q h2
        obtain ⟨h1, g⟩ := h1
        refine ⟨by rw [i1, h1]; rfl, fun s hs => ?_⟩
        rcases List.mem_cons.mp hs with rfl | hs
        · exact g
        · exact i2 s hs
    | _ => cases e
theorem joinL_len (s : List Nat) : ∀ l : List (List Nat), (joinL s l).length ≤ (l.map List.length).sum + l.length * s.length
  | [] => by simp [joinL]
  | [x] => by simp [joinL]
  | x :: y :: l => by
    have ih := joinL_len s (y :: l)
    have e : (y :: l).length = l.length + 1 := rfl
    simp only [joinL, List.length_append, List.map_cons, List.sum_cons, List.length_cons, Nat.add_mul, Nat.one_mul] at ih ⊢
    omega
theorem joinL_mem (s : List Nat) {c : Nat} : ∀ l : List (List Nat), c ∈ joinL s l → c ∈ s ∨ ∃ x ∈ l, c ∈ x
  | [], h => by cases h
  | [x], h => .inr ⟨x, by simp, h⟩
  | x :: y :: l, h => by
    have h : c ∈ x ++ s ++ joinL s (y :: l) := h
    rcases List.mem_append.mp h with h | h
    · rcases List.mem_append.mp h with h | h
      · exact .inr ⟨x, by simp, h⟩
      · exact .inl h
    · rcases joinL_mem s (y :: l) h with h | ⟨z, hz, h⟩
      · exact .inl h
      · exact .inr ⟨z, List.mem_cons_of_mem _ hz, h⟩
theorem s_join {o : Expr} {mo : ME} {apos : Pos} (ho : Snd X W o mo) (he : Snd X W e m) (hs : starEach [e] X.env = [(false, eval e X.env)]) (hb : attributeBase o "join" X.env (eval o X.env) = eval o X.env) (hl : (apos.endLine == pos.line) = true) :
    Snd X W (.Call (.Attribute o "join" apos) [e] [] pos) (.join mo m) := by
  refine Snd.of (PE.mono (pe_join ho.pe he.pp hs hb hl) fun σ H Q ⟨F, ρ, Hf, r, p⟩ => ?_) (fun i z => nomatch z) (fun _ => rfl)
  have p : Post (ctx X) F W σ (dE (ctx X) σ) Q Hf ((ev mo ρ).bind fun x => match x.1 with
    | .str s => (pre m (ev m) x.2).bind fun y => match fin m y.1 y.2 with
      | some (.lst l) => match allStr l with
        | some ls => if (ls.map List.length).sum + ls.length * s.length ≤ 16777216 then .ok (.str (joinL s ls), y.2) else .stuck
        | none => .stuck
      | _ => .stuck
    | _ => .stuck) := p
  refine step r p fun d ρ1 v H1 Hf1 r1 s1 dn1 p1 => ?_
  dsimp only at p1
  split at p1
  · rename_i sl
    obtain ⟨rfl, g⟩ := dn1
    refine ⟨⟨_, rfl⟩, ?_⟩
    refine step r1 p1 fun d2 ρ2 v2 H2 Hf2 r2 s2 dn2 p2 => ?_
    dsimp only at p2
    split at p2
    · rename_i l e1
      split at p2
      · rename_i ls e2
        split at p2
        · rename_i hz
          obtain ⟨a, vs, rfl, h1, h2⟩ := (show Top _ _ _ (.lst l) _ from top_fin r2 (Same.refl _) dn2 e1)
          obtain ⟨e3, gs⟩ := allStr_den e2 h2
          refine ⟨_, a, ls.map fun s => (⟨s.toArray⟩ : Str), rfl, rfl, .inl (SqL.of (by rw [← e3]; exact h1)), ?_, ?_⟩
          · have e4 : (ls.map fun s => (⟨s.toArray⟩ : Str)).map (·.length) = ls.map List.length := by
              rw [List.map_map]
              refine List.map_congr_left fun x _ => ?_
              simp [Str.length]
            rw [e4, List.length_map]
            simpa [Str.length] using hz
          · have e5 : Txt.join (⟨sl.toArray⟩ : Str) (ls.map fun s => (⟨s.toArray⟩ : Str)) = ⟨(joinL sl ls).toArray⟩ := by
              rw [joinL_eq]
              exact _root_.SX.join_S sl ls
            rw [e5]
            refine p2 _ _ _ r2 (Same.refl _) ⟨rfl, Nat.le_trans (joinL_len sl ls) hz, fun x hx => ?_⟩
            rcases joinL_mem sl ls hx with h | ⟨z, hz, h⟩
            · exact g.2 x h
            · exact (gs z hz).2 x h
        · exact p2.elim
      · exact p2.elim
    · exact p2.elim
  · exact p1.elim
/-! ### constant dicts -/
/-- a written dict of texts and ints -/
inductive KVs (X : Cx) (pos : Pos) : List (Option Expr) → List Expr → List (List Nat) → List Int → Prop where
  | nil : KVs X pos [] [] [] []
  | cons {k v : Expr} {ks : List (Option Expr)} {vs : List Expr} {s : List Nat} {i : Int} {ss : List (List Nat)} {is : List Int} (hk : PE X k (tC (.str ⟨s.toArray⟩))) (hv : PE X v (tC (.int i))) (t : KVs X pos ks vs ss is) : KVs X pos (some k :: ks) (v :: vs) (s :: ss) (i :: is)
theorem KVs.pps {ks : List (Option Expr)} {vs : List Expr} {ss : List (List Nat)} {is : List Int} (h : KVs X pos ks vs ss is) : PPs X pos ks vs ((ss.zip is).map fun p => (tC (V.str ⟨p.1.toArray⟩), tC (V.int p.2))) := by
  induction h with
  | nil => exact pps_nil
  | cons hk hv t ih => exact pps_cons hk hv ih
theorem KVs.len {ks : List (Option Expr)} {vs : List Expr} {ss : List (List Nat)} {is : List Int} (h : KVs X pos ks vs ss is) : ks.all (·.isSome) = true ∧ ks.length = vs.length ∧ ks.length = ss.length ∧ ss.length = is.length := by
  induction h with
  | nil => exact ⟨rfl, rfl, rfl, rfl⟩
  | cons hk hv t ih => exact ⟨by simp [ih.1], by simp [ih.2.1], by simp [ih.2.2.1], by simp [ih.2.2.2]⟩
theorem tPairs_c (σ : St) (H : Hp) (Q : List (V × V) → Hp → Prop) : ∀ (l : List (List Nat × Int)), tPairs (l.map fun p => (tC (V.str ⟨p.1.toArray⟩), tC (V.int p.2))) σ H Q ↔ Q (l.map fun p => (V.str ⟨p.1.toArray⟩, V.int p.2)) H
  | [] => Iff.rfl
  | (s, i) :: l => tPairs_c σ H (fun ps H3 => Q ((V.str ⟨s.toArray⟩, V.int i) :: ps) H3) l
def kvC (l : List (List Nat × Int)) : List (Key × V) := l.map fun p => (Sum.inr ⟨p.1.toArray⟩, V.int p.2)
theorem valV_kvC (s : List Nat) : ∀ l : List (List Nat × Int), valV (kvC l) (Sum.inr ⟨s.toArray⟩ : Key) = (l.find? fun p => decide (p.1 = s)).map fun p => V.int p.2
  | [] => rfl
  | (t, i) :: l => by
    unfold kvC valV
    rw [List.map_cons, List.find?_cons, List.find?_cons]
    by_cases h : t = s
    · subst h
      simp
    · have : decide ((Sum.inr ⟨t.toArray⟩ : Key) = Sum.inr ⟨s.toArray⟩) = false := decide_eq_false fun z => h (by injection z with z; injection z with z; simpa using z)
      rw [this, decide_eq_false h]
      exact valV_kvC s l
theorem merge_kvC : ∀ (l acc : List (List Nat × Int)), ((acc ++ l).map (·.1)).Nodup → mergeK (kvC acc) (kvC l) = kvC (acc ++ l)
  | [], acc, _ => by rw [List.append_nil]; rfl
  | (s, i) :: l, acc, h => by
    have e : mergeK (kvC acc) (kvC ((s, i) :: l)) = mergeK (putK (kvC acc) (Sum.inr ⟨s.toArray⟩) (V.int i)) (kvC l) := rfl
    have hn : valV (kvC acc) (Sum.inr ⟨s.toArray⟩ : Key) = none := by
      rw [valV_kvC]
      have : acc.find? (fun p => decide (p.1 = s)) = none := by
        rw [List.find?_eq_none]
        intro p hp z
        have z : p.1 = s := by simpa using z
        rw [List.map_append, List.nodup_append] at h
        exact h.2.2 p.1 (List.mem_map.mpr ⟨p, hp, rfl⟩) s (by simp) z
      rw [this]
      rfl
    rw [e, putK_new _ hn]
    have e2 : kvC acc ++ [(Sum.inr ⟨s.toArray⟩, V.int i)] = kvC (acc ++ [(s, i)]) := by
      unfold kvC
      rw [List.map_append]
      rfl
    rw [e2, merge_kvC l (acc ++ [(s, i)]) (by rw [List.append_assoc]; exact h), List.append_assoc]
    rfl
/-- such a dict made -/
theorem kvs_made {ks : List (Option Expr)} {vs : List Expr} {ss : List (List Nat)} {is : List Int} (h : KVs X pos ks vs ss is) (h0 : ks ≠ []) (h15 : ks.length ≤ 15) (hnd : ss.Nodup) :
    PE X (.Dict ks vs pos) (fun _ H Q => ∀ p, H p = none → Q (.ref p) (upd H p (.dK (kvC (ss.zip is))))) := by
  obtain ⟨l1, l2, l3, l4⟩ := h.len
  refine PE.mono (pe_disp h.pps l1 l2 h0 h15) fun σ H Q q => ?_
  intro p hp
  rw [tPairs_c]
  have hz : (ss.zip is).length = ss.length := by rw [List.length_zip]; omega
  refine ⟨upd_same, kvC (ss.zip is), ?_, ?_, ?_⟩
  · unfold kvC
    rw [List.map_map]
    rfl
  · unfold kvC
    rw [List.length_map, hz]
    omega
  · have e : mergeK [] (kvC (ss.zip is)) = kvC (ss.zip is) := merge_kvC (ss.zip is) [] (by rw [List.nil_append, List.map_fst_zip (by omega)]; exact hnd)
    rw [e, upd_upd]
    exact q p hp
theorem s_dsel {ks : List (Option Expr)} {vs : List Expr} {ss : List (List Nat)} {is : List Int} {dpos : Pos} (hu : X.A.units + 65 < cLine) (h : KVs X dpos ks vs ss is) (h0 : ks ≠ []) (h15 : ks.length ≤ 15) (hnd : ss.Nodup) (he : Snd X W e m) (hn : NoSl e) :
    Snd X W (.Subscript (.Dict ks vs dpos) e pos) (.dsel ss is m) := by
  refine Snd.of (PE.mono (pe_dget (by omega) (kvs_made h h0 h15 hnd) he.pe hn) fun σ H Q ⟨F, ρ, Hf, r, p⟩ => ?_) (fun i z => nomatch z) (fun _ => rfl)
  have p : Post (ctx X) F W σ (dE (ctx X) σ) Q Hf ((ev m ρ).bind fun x => match x.1 with
    | .str s => match (ss.zip is).find? fun p => decide (p.1 = s) with
      | some p => .ok (.int p.2, x.2)
      | none => .stuck
    | _ => .stuck) := p
  intro pa hpa
  obtain ⟨r1, s1⟩ := r.alloc hpa (.dK (kvC (ss.zip is)))
  have p1 := Post.mono s1 p
  refine step r1 p1 fun d ρ2 v H2 Hf2 r2 s2 dn2 p2 => ?_
  dsimp only at p2
  split at p2
  · rename_i s
    obtain ⟨rfl, g⟩ := dn2
    split at p2
    · rename_i q e1
      refine ⟨pa, .int q.2, rfl, .inl ⟨_, Sum.inr ⟨s.toArray⟩, .inl (r2.sub _ _ (s2 _ _ upd_same)), rfl, ?_⟩, p2 _ _ _ r2 (Same.refl _) rfl⟩
      rw [valV_kvC, e1]
      rfl
    · exact p2.elim
  · exact p2.elim
theorem s_dgetc {ks : List (Option Expr)} {vs : List Expr} {ss : List (List Nat)} {is : List Int} {x : Expr} {i0 : Int} {dpos apos cpos : Pos} (hu : X.A.units + 65 < cLine) (h : KVs X dpos ks vs ss is) (h0 : ks ≠ []) (h15 : ks.length ≤ 15) (hnd : ss.Nodup) (he : Snd X W e m) (hx : PE X x (tC (.int i0)))
    (M : M2 X (.Dict ks vs dpos) "get" apos e x cpos) : Snd X W (.Call (.Attribute (.Dict ks vs dpos) "get" apos) [e, x] [] cpos) (.dgetc ss is m i0) := by
  refine Snd.of (PE.mono (pe_dget2 (by omega) (kvs_made h h0 h15 hnd) he.pe hx M) fun σ H Q ⟨F, ρ, Hf, r, p⟩ => ?_) (fun i z => nomatch z) (fun _ => rfl)
  have p : Post (ctx X) F W σ (dE (ctx X) σ) Q Hf ((ev m ρ).bind fun x => match x.1 with
    | .str s => match (ss.zip is).find? fun p => decide (p.1 = s) with
      | some p => .ok (.int p.2, x.2)
      | none => .ok (.int i0, x.2)
    | _ => .stuck) := p
  intro pa hpa
  obtain ⟨r1, s1⟩ := r.alloc hpa (.dK (kvC (ss.zip is)))
  have p1 := Post.mono s1 p
  refine ⟨pa, rfl, .inl ⟨_, .inl upd_same⟩, ?_⟩
  refine step r1 p1 fun d ρ2 v H2 Hf2 r2 s2 dn2 p2 => ?_
  dsimp only at p2
  split at p2
  · rename_i s
    obtain ⟨rfl, g⟩ := dn2
    refine ⟨_, .inl ⟨_, Sum.inr ⟨s.toArray⟩, .inl (r2.sub _ _ (s2 _ _ upd_same)), rfl, rfl⟩, ?_⟩
    rw [valV_kvC]
    split at p2
    · rename_i q e1
      rw [e1]
      exact p2 _ _ _ r2 (Same.refl _) rfl
    · rename_i e1
      rw [e1]
      exact p2 _ _ _ r2 (Same.refl _) rfl
  · exact p2.elim
end
end NV

/-! NV.J: what a loop walks. -/
namespace NV
open PySem PySem.Spec PyProof.Rows L2

/-! ### locks -/
theorem lockE_len : ∀ (ms : List ME) (ρ : Rho), (lockE ms ρ).length = ρ.length
  | [], ρ => rfl
  | m :: ms, ρ => by
    cases m with
    | var i =>
      unfold lockE
      split
      · rw [lockE_len ms, List.length_set]
      · rw [lockE_len ms, List.length_set]
      · exact lockE_len ms ρ
    | _ => exact lockE_len ms ρ
/-- each entry is as it was, or an own one that is locked -/
theorem lockE_at : ∀ (ms : List ME) (ρ : Rho) (j : Nat), (lockE ms ρ)[j]? = ρ[j]? ∨ ∃ d, (ρ[j]? = some (.ow d) ∨ ρ[j]? = some (.io d)) ∧ (lockE ms ρ)[j]? = some (.br d)
  | [], ρ, j => .inl rfl
  | m :: ms, ρ, j => by
    have sub : ∀ (i : Nat) (d : D), (ρ[i]? = some (.ow d) ∨ ρ[i]? = some (.io d)) → (lockE ms (ρ.set i (.br d)))[j]? = ρ[j]? ∨ ∃ d2, (ρ[j]? = some (.ow d2) ∨ ρ[j]? = some (.io d2)) ∧ (lockE ms (ρ.set i (.br d)))[j]? = some (.br d2) := fun i d hi => by
      have hl : i < ρ.length := by rcases hi with h | h <;> exact lt_of_get h
      by_cases hij : i = j
      · subst hij
        rcases lockE_at ms (ρ.set i (.br d)) i with h | ⟨d', h1, h2⟩
        · rw [List.getElem?_set_self hl] at h
          exact .inr ⟨d, hi, h⟩
        · rw [List.getElem?_set_self hl] at h1
          rcases h1 with h1 | h1 <;> cases h1
      · rcases lockE_at ms (ρ.set i (.br d)) j with h | ⟨d', h1, h2⟩
        · rw [List.getElem?_set_ne hij] at h
          exact .inl h
        · rw [List.getElem?_set_ne hij] at h1
          exact .inr ⟨d', h1, h2⟩
    cases m with
    | var i =>
      unfold lockE
      split
      · rename_i d h
        exact sub i d (.inl h)
      · rename_i d h
        exact sub i d (.inr h)
      · exact lockE_at ms ρ j
    | _ => exact lockE_at ms ρ j
/-- a name that is walked over is locked, or is no own one -/
theorem lockE_mem : ∀ (ms : List ME) (ρ : Rho) (i : Nat), ME.var i ∈ ms → (∀ d, (lockE ms ρ)[i]? ≠ some (.ow d)) ∧ (∀ d, (lockE ms ρ)[i]? ≠ some (.io d))
  | [], ρ, i, h => by cases h
  | m :: ms, ρ, i, h => by
    have sub : ∀ (ms : List ME) (ρ : Rho), (∀ d, ρ[i]? ≠ some (.ow d)) ∧ (∀ d, ρ[i]? ≠ some (.io d)) → (∀ d, (lockE ms ρ)[i]? ≠ some (.ow d)) ∧ (∀ d, (lockE ms ρ)[i]? ≠ some (.io d)) := fun ms ρ hn => by
      rcases lockE_at ms ρ i with h | ⟨d', h1, h2⟩
      · rw [h]; exact hn
      · rw [h2]
        exact ⟨fun d z => (by cases z), fun d z => (by cases z)⟩
    rcases List.mem_cons.mp h with rfl | hz
    · unfold lockE
      split
      · rename_i d h
        refine sub ms _ ?_
        rw [List.getElem?_set_self (lt_of_get h)]
        exact ⟨fun d z => (by cases z), fun d z => (by cases z)⟩
      · rename_i d h
        refine sub ms _ ?_
        rw [List.getElem?_set_self (lt_of_get h)]
        exact ⟨fun d z => (by cases z), fun d z => (by cases z)⟩
      · rename_i h1 h2
        exact sub ms ρ ⟨fun d z => h1 d z, fun d z => h2 d z⟩
    · cases m with
      | var k =>
        unfold lockE
        split
        · exact lockE_mem ms _ i hz
        · exact lockE_mem ms _ i hz
        · exact lockE_mem ms ρ i hz
      | _ => exact lockE_mem ms ρ i hz
/-- the frame within the loop -/
def Fr.lock (F : Fr) (ms : List ME) (ρ : Rho) (σ : St) : Fr := { F with L := fun j a o => (F.L j a o ∧ (lockE ms ρ)[j]? = ρ[j]?) ∨ ∃ d, o = some d ∧ (lockE ms ρ)[j]? = some (.br d) ∧ σ[j]? = some (some (.ref a)) }
section
variable {c : Ct} {F : Fr} {ρ : Rho} {σ : St} {H Hf : Hp}
theorem R.lock (r : R c F ρ σ H Hf) (ms : List ME) : R c (F.lock ms ρ σ) (lockE ms ρ) σ H Hf := by
  refine r.relabel (lockE_len ms ρ) rfl rfl rfl (fun i d h => ?_) (fun a o h m => r.keep a o h m) (fun i d h => ?_) (fun i e d h1 h2 => ?_) (fun i d a h1 h2 => ?_) (fun i d a h1 h2 => ?_) (fun i a o h => ?_)
  · rcases lockE_at ms ρ i with h' | ⟨d', h1, h2⟩
    · have h0 := h
      rw [h'] at h0
      obtain ⟨a, w, _⟩ := r.own i _ d h0 rfl
      exact ⟨a, .inr ⟨d, rfl, h, w⟩⟩
    · rw [h] at h2
      cases h2
      rcases h1 with h1 | h1
      · obtain ⟨a, w, _⟩ := r.own i _ d h1 rfl
        exact ⟨a, .inr ⟨d, rfl, h, w⟩⟩
      · obtain ⟨a, w, _⟩ := r.own i _ d h1 rfl
        exact ⟨a, .inr ⟨d, rfl, h, w⟩⟩
  · rcases lockE_at ms ρ i with h' | ⟨d', h1, h2⟩
    · rw [← h']; exact h
    · rw [h] at h2; cases h2
  · rcases lockE_at ms ρ i with h' | ⟨d', h3, h4⟩
    · exact ⟨e, by rw [← h']; exact h1, h2⟩
    · rw [h1] at h4
      cases h4
      cases h2
      rcases h3 with h3 | h3
      · exact ⟨_, h3, rfl⟩
      · exact ⟨_, h3, rfl⟩
  · rcases lockE_at ms ρ i with h' | ⟨d', h3, h4⟩
    · exact r.ow i d a (by rw [← h']; exact h1) h2
    · rw [h1] at h4; cases h4
  · rcases lockE_at ms ρ i with h' | ⟨d', h3, h4⟩
    · exact r.io i d a (by rw [← h']; exact h1) h2
    · rw [h1] at h4; cases h4
  · rcases h with ⟨h, h'⟩ | ⟨d, rfl, h, h'⟩
    · obtain ⟨w1, e, w2, w3⟩ := r.pin i a o h
      exact ⟨w1, e, by rw [h']; exact w2, w3⟩
    · refine ⟨h', _, h, ?_⟩
      show Ent.br d = pinE d
      rcases lockE_at ms ρ i with z | ⟨d', z1, z2⟩
      · rw [z] at h
        exact (r.noAdr h rfl).symm
      · rw [h] at z2
        cases z2
        rcases z1 with z1 | z1
        · exact (r.noAdr z1 rfl).symm
        · exact (r.noAdr z1 rfl).symm
theorem unlockE_len (ρ0 : Rho) : ∀ (ms : List ME) (ρ : Rho), (unlockE ρ0 ms ρ).length = ρ.length
  | [], ρ => rfl
  | m :: ms, ρ => by
    cases m with
    | var i =>
      unfold unlockE
      split
      · rw [unlockE_len ρ0 ms, List.length_set]
      · rw [unlockE_len ρ0 ms, List.length_set]
      · exact unlockE_len ρ0 ms ρ
    | _ => exact unlockE_len ρ0 ms ρ
/-- behind the loop an entry that was locked is what it was -/
theorem unlockE_at (ρ0 : Rho) : ∀ (ms : List ME) (ρ : Rho) (j : Nat), j < ρ.length →
    (unlockE ρ0 ms ρ)[j]? = ρ[j]? ∧ (∀ d, ρ0[j]? = some (.ow d) ∨ ρ0[j]? = some (.io d) → ME.var j ∈ ms → ρ[j]? = ρ0[j]?) ∨
    (ME.var j ∈ ms ∧ (∃ d, ρ0[j]? = some (.ow d) ∨ ρ0[j]? = some (.io d)) ∧ (unlockE ρ0 ms ρ)[j]? = ρ0[j]?)
  | [], ρ, j, _ => .inl ⟨rfl, fun _ _ h => by cases h⟩
  | m :: ms, ρ, j, hj => by
    have sub : ∀ (i : Nat) (e : Ent), ρ0[i]? = some e → ((∃ d, e = .ow d) ∨ ∃ d, e = .io d) → m = .var i → unlockE ρ0 (m :: ms) ρ = unlockE ρ0 ms (ρ.set i e) →
        (unlockE ρ0 (m :: ms) ρ)[j]? = ρ[j]? ∧ (∀ d, ρ0[j]? = some (.ow d) ∨ ρ0[j]? = some (.io d) → ME.var j ∈ m :: ms → ρ[j]? = ρ0[j]?) ∨
        (ME.var j ∈ m :: ms ∧ (∃ d, ρ0[j]? = some (.ow d) ∨ ρ0[j]? = some (.io d)) ∧ (unlockE ρ0 (m :: ms) ρ)[j]? = ρ0[j]?) := fun i e h0 hk hm hu => by
      rw [hu]
      by_cases hij : i = j
      · subst hij
        refine .inr ⟨by rw [hm]; exact List.mem_cons_self, ?_, ?_⟩
        · rcases hk with ⟨d, rfl⟩ | ⟨d, rfl⟩
          · exact ⟨d, .inl h0⟩
          · exact ⟨d, .inr h0⟩
        · rcases unlockE_at ρ0 ms (ρ.set i e) i (by simpa using hj) with ⟨h, _⟩ | ⟨_, _, h⟩
          · rw [h, List.getElem?_set_self hj, h0]
          · exact h
      · rcases unlockE_at ρ0 ms (ρ.set i e) j (by simpa using hj) with ⟨h, h2⟩ | ⟨h1, h2, h3⟩
        · rw [List.getElem?_set_ne hij] at h h2
          refine .inl ⟨h, fun d hd hmem => ?_⟩
          rcases List.mem_cons.mp hmem with z | z
          · rw [hm] at z
            cases z
            exact absurd rfl hij
          · exact h2 d hd z
        · exact .inr ⟨List.mem_cons_of_mem _ h1, h2, h3⟩
    have sub2 : (∀ d, ME.var j = m → ρ0[j]? ≠ some (.ow d) ∧ ρ0[j]? ≠ some (.io d)) → unlockE ρ0 (m :: ms) ρ = unlockE ρ0 ms ρ →
        (unlockE ρ0 (m :: ms) ρ)[j]? = ρ[j]? ∧ (∀ d, ρ0[j]? = some (.ow d) ∨ ρ0[j]? = some (.io d) → ME.var j ∈ m :: ms → ρ[j]? = ρ0[j]?) ∨
        (ME.var j ∈ m :: ms ∧ (∃ d, ρ0[j]? = some (.ow d) ∨ ρ0[j]? = some (.io d)) ∧ (unlockE ρ0 (m :: ms) ρ)[j]? = ρ0[j]?) := fun hn hu => by
      rw [hu]
      rcases unlockE_at ρ0 ms ρ j hj with ⟨h, h2⟩ | ⟨h1, h2, h3⟩
      · refine .inl ⟨h, fun d hd hmem => ?_⟩
        rcases List.mem_cons.mp hmem with z | z
        · rcases hd with hd | hd
          · exact absurd hd (hn d z).1
          · exact absurd hd (hn d z).2
        · exact h2 d hd z
      · exact .inr ⟨List.mem_cons_of_mem _ h1, h2, h3⟩
    cases m with
    | var i =>
      cases q : ρ0[i]? with
      | none => exact sub2 (fun d z => by cases z; rw [q]; exact ⟨fun z => (nomatch z), fun z => (nomatch z)⟩) (by rw [unlockE]; simp only [q])
      | some e =>
        cases e with
        | ow d => exact sub i _ q (.inl ⟨d, rfl⟩) rfl (by rw [unlockE]; simp only [q])
        | io d => exact sub i _ q (.inr ⟨d, rfl⟩) rfl (by rw [unlockE]; simp only [q])
        | un => exact sub2 (fun d z => by cases z; rw [q]; exact ⟨fun z => (nomatch z), fun z => (nomatch z)⟩) (by rw [unlockE]; simp only [q])
        | im d => exact sub2 (fun d z => by cases z; rw [q]; exact ⟨fun z => (nomatch z), fun z => (nomatch z)⟩) (by rw [unlockE]; simp only [q])
        | br d => exact sub2 (fun d z => by cases z; rw [q]; exact ⟨fun z => (nomatch z), fun z => (nomatch z)⟩) (by rw [unlockE]; simp only [q])
        | hid => exact sub2 (fun d z => by cases z; rw [q]; exact ⟨fun z => (nomatch z), fun z => (nomatch z)⟩) (by rw [unlockE]; simp only [q])
    | _ => exact sub2 (fun d z => by cases z) rfl
/-- locked entries are those that the list names -/
theorem lockE_br : ∀ (ms : List ME) (ρ : Rho) (j : Nat), (lockE ms ρ)[j]? ≠ ρ[j]? → ME.var j ∈ ms
  | [], ρ, j, h => absurd rfl h
  | m :: ms, ρ, j, h => by
    have sub : ∀ (i : Nat) (e : Ent), m = .var i → (lockE ms (ρ.set i e))[j]? ≠ ρ[j]? → ME.var j ∈ m :: ms := fun i e hm h => by
      by_cases hij : i = j
      · subst hij
        rw [hm]
        exact List.mem_cons_self
      · refine List.mem_cons_of_mem _ (lockE_br ms (ρ.set i e) j ?_)
        rw [List.getElem?_set_ne hij]
        exact h
    cases m with
    | var i =>
      unfold lockE at h
      split at h
      · exact sub i _ rfl h
      · exact sub i _ rfl h
      · exact List.mem_cons_of_mem _ (lockE_br ms ρ j h)
    | _ => exact List.mem_cons_of_mem _ (lockE_br ms ρ j h)
/-- behind the loop -/
theorem R.unlock {ms : List ME} {ρe : Rho} {σe : St} {He Hfe : Hp} (r0 : R c F ρ σ H Hf) (r : R c (F.lock ms ρ σ) ρe σe He Hfe) : R c F (unlockE ρ ms ρe) σe He Hfe := by
  -- what a locked entry is within
  have locked : ∀ j d, ME.var j ∈ ms → (ρ[j]? = some (.ow d) ∨ ρ[j]? = some (.io d)) → ∃ a, σ[j]? = some (some (.ref a)) ∧ σe[j]? = some (some (.ref a)) ∧ ρe[j]? = some (.br d) := fun j d hm hd => by
    have h1 : (lockE ms ρ)[j]? = some (.br d) := by
      rcases lockE_at ms ρ j with h | ⟨d', h1, h2⟩
      · have := lockE_mem ms ρ j hm
        rw [h] at this
        rcases hd with hd | hd
        · exact absurd hd (this.1 d)
        · exact absurd hd (this.2 d)
      · rw [h2]
        rcases hd with hd | hd <;> rcases h1 with h1 | h1 <;> (rw [hd] at h1; cases h1) <;> rfl
    obtain ⟨a, w, _⟩ : ∃ a, σ[j]? = some (some (V.ref a)) ∧ Own c Hf H d a := by
      rcases hd with hd | hd
      · exact r0.own j _ d hd rfl
      · exact r0.own j _ d hd rfl
    obtain ⟨w1, e, w2, w3⟩ := r.pin j a (some d) (.inr ⟨d, rfl, h1, w⟩)
    have w3 : e = pinE d := w3
    have hbr : pinE d = .br d := by
      rcases hd with hd | hd
      · exact r0.noAdr hd rfl
      · exact r0.noAdr hd rfl
    rw [hbr] at w3
    subst w3
    exact ⟨a, w, w1, w2⟩
  have at_ : ∀ j e, (unlockE ρ ms ρe)[j]? = some e → ρe[j]? = some e ∨ ∃ d a, ME.var j ∈ ms ∧ (e = .ow d ∧ ρ[j]? = some (.ow d) ∨ e = .io d ∧ ρ[j]? = some (.io d)) ∧ σ[j]? = some (some (.ref a)) ∧ σe[j]? = some (some (.ref a)) ∧ ρe[j]? = some (.br d) := fun j e h => by
    have hj : j < ρe.length := by
      have := lt_of_get h
      rw [unlockE_len] at this
      exact this
    rcases unlockE_at ρ ms ρe j hj with ⟨h1, _⟩ | ⟨h1, ⟨d, h2⟩, h3⟩
    · exact .inl (by rw [← h1]; exact h)
    · obtain ⟨a, w1, w2, w3⟩ := locked j d h1 h2
      rw [h] at h3
      refine .inr ⟨d, a, h1, ?_, w1, w2, w3⟩
      rcases h2 with h2 | h2
      · rw [h2] at h3; cases h3; exact .inl ⟨rfl, h2⟩
      · rw [h2] at h3; cases h3; exact .inr ⟨rfl, h2⟩
  refine r.relabel (unlockE_len ρ ms ρe) rfl rfl rfl (fun i d h => ?_) (fun a o h m => r.keep a o h m) (fun i d h => ?_) (fun i e d h1 h2 => ?_) (fun i d a h1 h2 => ?_) (fun i d a h1 h2 => ?_) (fun i a o h => ?_)
  · -- read-only entries
    have hj : i < ρe.length := by
      have := lt_of_get h
      rw [unlockE_len] at this
      exact this
    rcases at_ i _ h with h' | ⟨d', a, h1, h2, _⟩
    · obtain ⟨a, w⟩ := r.brL i d h'
      rcases w with ⟨w, _⟩ | ⟨d', z, w1, w2⟩
      · exact ⟨a, w⟩
      · cases z
        rcases lockE_at ms ρ i with z | ⟨d2, z1, z2⟩
        · rw [z] at w1
          exact r0.brL i d w1
        · exfalso
          have hm : ME.var i ∈ ms := lockE_br ms ρ i fun z => by
            rw [z2] at z
            rcases z1 with z1 | z1 <;> (rw [z1] at z; cases z)
          rw [z2] at w1
          cases w1
          rcases unlockE_at ρ ms ρe i hj with ⟨u1, u2⟩ | ⟨u1, ⟨d3, u2⟩, u3⟩
          · have u4 := u2 d z1 hm
            rw [h'] at u4
            rcases z1 with z1 | z1 <;> (rw [z1] at u4; cases u4)
          · rw [h] at u3
            rcases z1 with z1 | z1 <;> (rw [z1] at u3; cases u3)
    · rcases h2 with ⟨h2, _⟩ | ⟨h2, _⟩ <;> cases h2
  · rcases at_ i _ h with h' | ⟨d', a, h1, h2, _⟩
    · exact h'
    · rcases h2 with ⟨h2, _⟩ | ⟨h2, _⟩ <;> cases h2
  · rcases at_ i _ h1 with h' | ⟨d', a, h3, h4, h5, h6, h7⟩
    · exact ⟨e, h', h2⟩
    · refine ⟨.br d', h7, ?_⟩
      rcases h4 with ⟨rfl, _⟩ | ⟨rfl, _⟩ <;> exact h2
  · rcases at_ i _ h1 with h' | ⟨d', b, h3, h4, h5, h6, h7⟩
    · exact r.ow i d a h' h2
    · rcases h4 with ⟨z, h4⟩ | ⟨z, h4⟩
      · rw [h6] at h2
        cases h2
        exact r0.ow i d' _ h4 h5
      · cases z
  · rcases at_ i _ h1 with h' | ⟨d', b, h3, h4, h5, h6, h7⟩
    · exact r.io i d a h' h2
    · rcases h4 with ⟨z, h4⟩ | ⟨z, h4⟩
      · cases z
      · rw [h6] at h2
        cases h2
        exact r0.io i d' _ h4 h5
  · -- pins
    obtain ⟨w1, e, w2, w3⟩ := r0.pin i a o h
    rcases lockE_at ms ρ i with z | ⟨d2, z1, z2⟩
    · obtain ⟨y1, e', y2, y3⟩ := r.pin i a o (.inl ⟨h, z⟩)
      refine ⟨y1, e', ?_, y3⟩
      have hj := lt_of_get y2
      rcases unlockE_at ρ ms ρe i hj with ⟨u1, u2⟩ | ⟨u1, ⟨d3, u2⟩, u3⟩
      · rw [u1]; exact y2
      · have := lockE_mem ms ρ i u1
        rw [z] at this
        rcases u2 with u2 | u2
        · exact absurd u2 (this.1 d3)
        · exact absurd u2 (this.2 d3)
    · have hm : ME.var i ∈ ms := lockE_br ms ρ i fun z => by
        rw [z2] at z
        rcases z1 with z1 | z1 <;> (rw [z1] at z; cases z)
      obtain ⟨b, y1, y2, y3⟩ := locked i d2 hm z1
      rw [w1] at y1
      cases y1
      refine ⟨y2, e, ?_, w3⟩
      have hj := lt_of_get y3
      rcases unlockE_at ρ ms ρe i hj with ⟨u1, u2⟩ | ⟨u1, ⟨d3, u2⟩, u3⟩
      · rw [u1, u2 d2 z1 hm]; exact w2
      · rw [u3]; exact w2
end
end NV

/-! NV.K: iterables, targets, comprehensions. -/
namespace NV
open PySem PySem.Spec PyProof.Rows L2

/-- J gives out the data of items, one by one -/
def IterOk (c : Ct) (J : It) (items : List D) (ms : List ME) (ρ1 : Rho) (σ : St) (Hf1 : Hp) : Prop :=
  ∀ F' ρ' σ' H' Hf', R c F' ρ' σ' H' Hf' → Same Hf1 Hf' → (∀ j a d, (lockE ms ρ1)[j]? = some (.br d) → σ[j]? = some (some (.ref a)) → F'.L j a (some d)) → ∀ i,
    (∀ d, items[i]? = some d → J.go i H' ∧ ∀ x H2, J.yld i H' x H2 → ∃ Hf2, R c F' ρ' σ' H2 Hf2 ∧ Same Hf' Hf2 ∧ Den c Hf2 d x) ∧ (items.length ≤ i → J.stop i H')
def PostX (c : Ct) (F : Fr) (W : WX) (σ : St) (k : IK) (ms : List ME) (RR : It → Hp → Prop) (Hf : Hp) : Out Rho (List (Option D) × Rho) → Prop
  | .stuck => False
  | .ok (os, ρ1) => ∃ items, (finL ms os ρ1).bind (iterD k) = some items ∧ ∀ H1 Hf1 J, R c F ρ1 σ H1 Hf1 → Same Hf Hf1 → IterOk c J items ms ρ1 σ Hf1 → RR J H1
  | .exc n ρ' => ∀ H' Hf' C, R c F ρ' σ H' Hf' → Same Hf Hf' → c.mg (Str.ofString n) = some (.ref C) → W (.ref C) none σ H'
def iX (c : Ct) (W : WX) (k : IK) (ms : List ME) : TI := fun σ H RR => ∃ F ρ Hf, R c F ρ σ H Hf ∧ PostX c F W σ k ms RR Hf (pres ms ρ)
/-- an argument that is walked, later -/
theorem src_top {c : Ct} {F : Fr} {ρ1 : Rho} {σ : St} {H1 Hf1 Hf0 : Hp} {m : ME} {o : Option D} {v : V} {d : D} {ms : List ME} (r : R c F ρ1 σ H1 Hf1) (s : Same Hf0 Hf1) (h : dP c m σ o v Hf0) (e : fin m o ρ1 = some d) (hm : m ∈ ms)
    {F' : Fr} {ρ' : Rho} {σ' : St} {H' Hf' : Hp} (r' : R c F' ρ' σ' H' Hf') (s' : Same Hf1 Hf') (hl : ∀ j a d, (lockE ms ρ1)[j]? = some (.br d) → σ[j]? = some (some (.ref a)) → F'.L j a (some d)) : Top c Hf' H' d v := by
  have viaBr : ∀ i d', m = .var i → (lockE ms ρ1)[i]? = some (.br d') → σ[i]? = some (some v) → (∃ a, v = .ref a) → d' = d → Top c Hf' H' d v := fun i d' _ h1 h2 ⟨a, h3⟩ h4 => by
    subst h3 h4
    have q := hl i a d' h1 h2
    obtain ⟨w1, e', w2, w3⟩ := r'.pin i a _ q
    have w3 : e' = pinE d' := w3
    have hbr : pinE d' = .br d' := by
      rcases lockE_at ms ρ1 i with w | ⟨d2, z1, z2⟩
      · rw [w] at h1
        exact r.noAdr h1 rfl
      · rw [h1] at z2
        cases z2
        rcases z1 with z1 | z1
        · exact r.noAdr z1 rfl
        · exact r.noAdr z1 rfl
    rw [hbr] at w3
    subst w3
    obtain ⟨b, w4, w5⟩ := r'.own i _ d' w2 rfl
    rw [w1] at w4
    cases w4
    exact Top.of_own w5
  cases m with
  | var i =>
    have h : σ[i]? = some (some v) := h
    have e : peek ρ1 i = some d := e
    unfold peek at e
    cases q : ρ1[i]? with
    | none => rw [q] at e; cases e
    | some en =>
      rw [q] at e
      have isref : ∀ d', en.own? = some d' → ∃ a, v = .ref a := fun d' z => by
        obtain ⟨a, w, _⟩ := r.own i en d' q z
        rw [h] at w
        cases w
        exact ⟨a, rfl⟩
      have lk : ∀ d', (ρ1[i]? = some (.ow d') ∨ ρ1[i]? = some (.io d')) → (lockE ms ρ1)[i]? = some (.br d') := fun d' z => by
        rcases lockE_at ms ρ1 i with w | ⟨d2, w1, w2⟩
        · have := lockE_mem ms ρ1 i hm
          rw [w] at this
          rcases z with z | z
          · exact absurd z (this.1 d')
          · exact absurd z (this.2 d')
        · rw [w2]
          rcases z with z | z <;> rcases w1 with w1 | w1 <;> (rw [z] at w1; cases w1) <;> rfl
      cases en with
      | un => cases e
      | im d' =>
        cases e
        obtain ⟨v', w1, w2⟩ := r.im i _ q
        rw [h] at w1
        cases w1
        exact Top.of_den r'.sub (Den.mono s' _ _ w2)
      | hid => cases e
      | ow d' => cases e; exact viaBr i _ rfl (lk _ (.inl q)) h (isref _ rfl) rfl
      | io d' => cases e; exact viaBr i _ rfl (lk _ (.inr q)) h (isref _ rfl) rfl
      | br d' =>
        cases e
        refine viaBr i _ rfl ?_ h (isref _ rfl) rfl
        rcases lockE_at ms ρ1 i with w | ⟨d2, w1, w2⟩
        · rw [w]; exact q
        · rcases w1 with w1 | w1 <;> (rw [q] at w1; cases w1)
  | _ =>
    obtain ⟨d', rfl, dn⟩ := h
    cases e
    exact Top.of_den r'.sub (Den.mono (s.trans s') _ _ dn)
section
variable {X : Cx} {W : WX}
theorem PI.mono {tg e : Expr} {t t' : TI} (h : PI X tg e t) (k : ∀ σ H Q, t' σ H Q → t σ H Q) : PI X tg e t' := ⟨fun pins s σ H Q I q => h.run pins s σ H Q I (k σ H Q q)⟩
theorem PI.or {tg e : Expr} {t t' : TI} (h : PI X tg e t) (h' : PI X tg e t') : PI X tg e (fun σ H Q => t σ H Q ∨ t' σ H Q) := ⟨fun pins s σ H Q I q => q.elim (h.run pins s σ H Q I) (h'.run pins s σ H Q I)⟩
theorem pres_one (m : ME) (ρ : Rho) : pres [m] ρ = (pre m (ev m) ρ).bind fun x => .ok ([x.1], x.2) := rfl
theorem finL_one (m : ME) (o : Option D) (ρ : Rho) : finL [m] [o] ρ = (fin m o ρ).map fun d => [d] := by
  unfold finL
  cases fin m o ρ <;> rfl
/-- a list, a tuple, a text -/
theorem i_seq {tg e : Expr} {m : ME} (h : Snd X W e m) : PI X tg e (iX (ctx X) W .seq [m]) := by
  refine PI.mono (PI.or (pi_list h.pp) (PI.or (pi_tup h.pp) (pi_str h.pp))) fun σ H RR ⟨F, ρ, Hf, r, p⟩ => ?_
  rw [pres_one] at p
  -- the operand, whatever is wanted of it
  have go : ∀ (K : V → Hp → Prop), (∀ o ρ1, pre m (ev m) ρ = .ok (o, ρ1) → ∀ v H1 Hf1, R (ctx X) F ρ1 σ H1 Hf1 → Same Hf Hf1 → dP (ctx X) m σ o v Hf1 → K v H1) → tP (ctx X) W m σ H K := fun K k => by
    refine ⟨F, ρ, Hf, r, ?_⟩
    cases q : pre m (ev m) ρ with
    | stuck => rw [q] at p; exact p
    | exc n ρ' => rw [q] at p; exact p
    | ok x =>
      obtain ⟨o, ρ1⟩ := x
      exact fun v H1 Hf1 r1 s1 d1 => k o ρ1 q v H1 Hf1 r1 s1 d1
  have fin1 : ∀ o ρ1, pre m (ev m) ρ = .ok (o, ρ1) → ∃ d items, fin m o ρ1 = some d ∧ itemsD d = some items ∧ ∀ H1 Hf1 J, R (ctx X) F ρ1 σ H1 Hf1 → Same Hf Hf1 → IterOk (ctx X) J items [m] ρ1 σ Hf1 → RR J H1 := fun o ρ1 q => by
    rw [q] at p
    obtain ⟨items, e1, k⟩ := p
    have e1 : (finL [m] [o] ρ1).bind (iterD .seq) = some items := e1
    rw [finL_one] at e1
    cases z : fin m o ρ1 with
    | none => rw [z] at e1; cases e1
    | some d => rw [z] at e1; exact ⟨d, items, rfl, e1, k⟩
  -- which kind it is
  cases q : pre m (ev m) ρ with
  | stuck => rw [q] at p; exact p.elim
  | exc n ρ' =>
    exact .inl (go _ fun o ρ1 q' => by rw [q] at q'; cases q')
  | ok x =>
    obtain ⟨o, ρ1⟩ := x
    obtain ⟨d, items, e1, e2, k⟩ := fin1 o ρ1 q
    cases d with
    | lst l =>
      have e2 : items = l := (Option.some.inj e2).symm
      subst e2
      refine .inl (go _ fun o' ρ1' q' v H1 Hf1 r1 s1 d1 => ?_)
      rw [q] at q'
      cases q'
      obtain ⟨a, vs, rfl, h1, h2⟩ := (show Top _ _ _ (.lst items) _ from top_fin r1 (Same.refl _) d1 e1)
      refine ⟨a, rfl, ⟨vs, SqL.of h1⟩, k H1 Hf1 _ r1 s1 fun F' ρ' σ' H' Hf' r' s' hl i => ?_⟩
      obtain ⟨a', vs', e, h1', h2'⟩ := (show Top _ _ _ (.lst items) _ from src_top r1 (Same.refl _) d1 e1 List.mem_cons_self r' s' hl)
      cases e
      refine ⟨fun dd hd => ?_, fun hle => ⟨vs', SqL.of h1', by rw [← Dens.length h2']; exact hle⟩⟩
      obtain ⟨w, w1, w2⟩ := Dens.get h2' hd
      refine ⟨⟨vs', w, SqL.of h1', w1⟩, fun x H2 ⟨e, y⟩ => ?_⟩
      subst e
      have := y vs' (SqL.of h1')
      rw [w1] at this
      cases this
      exact ⟨Hf', r', Same.refl _, w2⟩
    | tup l =>
      have e2 : items = l := (Option.some.inj e2).symm
      subst e2
      refine .inr (.inl (go _ fun o' ρ1' q' v H1 Hf1 r1 s1 d1 => ?_))
      rw [q] at q'
      cases q'
      obtain ⟨a, vs, rfl, h1, h2⟩ := (show Den _ _ (.tup items) _ from top_fin r1 (Same.refl _) d1 e1)
      refine ⟨a, rfl, ⟨vs, Same.seqT r1.sub h1⟩, k H1 Hf1 _ r1 s1 fun F' ρ' σ' H' Hf' r' s' hl i => ?_⟩
      have h1' := Same.seqT (s'.trans r'.sub) h1
      have h2' := Dens.mono s' _ _ h2
      refine ⟨fun dd hd => ?_, fun hle => ⟨vs, h1', by rw [← Dens.length h2']; exact hle⟩⟩
      obtain ⟨w, w1, w2⟩ := Dens.get h2' hd
      refine ⟨⟨vs, w, h1', w1⟩, fun x H2 ⟨e, y⟩ => ?_⟩
      subst e
      have := y vs h1'
      rw [w1] at this
      cases this
      exact ⟨Hf', r', Same.refl _, w2⟩
    | scr l =>
      cases e2
      refine .inl (go _ fun o' ρ1' q' v H1 Hf1 r1 s1 d1 => ?_)
      rw [q] at q'
      cases q'
      obtain ⟨a, rfl, h1⟩ := (show Den (ctx X) Hf1 (.scr l) v from top_fin r1 (Same.refl _) d1 e1)
      refine ⟨a, rfl, ⟨_, L2.Same.seq r1.sub h1⟩, k H1 Hf1 _ r1 s1 fun F' ρ' σ' H' Hf' r' s' hl i => ?_⟩
      have h1' := L2.Same.seq (s'.trans r'.sub) h1
      refine ⟨fun dd hd => ?_, fun hle => ⟨_, h1', by simpa using hle⟩⟩
      obtain ⟨w, w1, rfl⟩ : ∃ w, l[i]? = some w ∧ dd = .int w := by
        rw [List.getElem?_map] at hd
        cases z : l[i]? with
        | none => rw [z] at hd; cases hd
        | some w => rw [z] at hd; cases hd; exact ⟨w, rfl, rfl⟩
      have w2 : (l.map V.int)[i]? = some (.int w) := by rw [List.getElem?_map, w1]; rfl
      refine ⟨⟨_, _, h1', w2⟩, fun x H2 ⟨e, y⟩ => ?_⟩
      subst e
      have := y _ h1'
      rw [w2] at this
      cases this
      exact ⟨Hf', r', Same.refl _, rfl⟩
    | str l =>
      cases e2
      refine .inr (.inr (go _ fun o' ρ1' q' v H1 Hf1 r1 s1 d1 => ?_))
      rw [q] at q'
      cases q'
      obtain ⟨rfl, g⟩ := (show Den (ctx X) Hf1 (.str l) v from top_fin r1 (Same.refl _) d1 e1)
      refine ⟨_, rfl, k H1 Hf1 _ r1 s1 fun F' ρ' σ' H' Hf' r' s' hl i => ?_⟩
      refine ⟨fun dd hd => ?_, fun hle => ?_⟩
      · obtain ⟨w, w1, rfl⟩ : ∃ w, l[i]? = some w ∧ dd = .str [w] := by
          rw [List.getElem?_map] at hd
          cases z : l[i]? with
          | none => rw [z] at hd; cases hd
          | some w => rw [z] at hd; cases hd; exact ⟨w, rfl, rfl⟩
        refine ⟨?_, fun x H2 ⟨e, ch, y1, y2⟩ => ?_⟩
        · show i < l.toArray.size
          simpa using lt_of_get w1
        · subst e y2
          have y1 : l.toArray[i]? = some ch := y1
          have : l[i]? = some ch := by simpa using y1
          rw [w1] at this
          cases this
          refine ⟨Hf', r', Same.refl _, rfl, ?_, fun z hz => ?_⟩
          · show 1 ≤ 16777216
            decide
          · have : z = w := by simpa using hz
            rw [this]
            exact g.2 w (List.mem_of_getElem? w1)
      · show l.toArray.size ≤ i
        simpa using hle
    | _ => cases e2
/-- range -/
theorem rng_ok {c : Ct} {lo : Int} {n : Nat} {ms : List ME} {ρ1 : Rho} {σ : St} {Hf1 : Hp} : IterOk c (Itr lo n) (rngD lo n) ms ρ1 σ Hf1 := fun F' ρ' σ' H' Hf' r' s' hl i => by
  refine ⟨fun dd hd => ?_, fun hle => ?_⟩
  · have hi : i < n := by
      have := lt_of_get hd
      simpa [rngD] using this
    have e : dd = .int (lo + i) := by
      unfold rngD at hd
      rw [List.getElem?_map, List.getElem?_range hi] at hd
      cases hd
      rfl
    subst e
    refine ⟨hi, fun x H2 ⟨e, y⟩ => ?_⟩
    subst e y
    exact ⟨Hf', r', Same.refl _, rfl⟩
  · show n ≤ i
    simpa [rngD] using hle
theorem go_pps {ms : List ME} {k : IK} {F : Fr} {ρ : Rho} {σ : St} {H Hf : Hp} {RR : It → Hp → Prop} (r : R (ctx X) F ρ σ H Hf) (p : PostX (ctx X) F W σ k ms RR Hf (pres ms ρ)) {K : List V → Hp → Prop}
    (kk : ∀ os ρ1 vs H1 Hf1 items ds, R (ctx X) F ρ1 σ H1 Hf1 → Same Hf Hf1 → dPs (ctx X) ms σ os vs Hf1 → finL ms os ρ1 = some ds → iterD k ds = some items →
      (∀ J, IterOk (ctx X) J items ms ρ1 σ Hf1 → RR J H1) → K vs H1) : tvG (ctx X) W (dPs (ctx X) ms) (pres ms) σ H K := by
  refine ⟨F, ρ, Hf, r, ?_⟩
  cases q : pres ms ρ with
  | stuck => rw [q] at p; exact p
  | exc n ρ' => rw [q] at p; exact p
  | ok x =>
    obtain ⟨os, ρ1⟩ := x
    rw [q] at p
    obtain ⟨items, e1, k'⟩ := p
    intro vs H1 Hf1 r1 s1 d1
    cases z : finL ms os ρ1 with
    | none => rw [z] at e1; cases e1
    | some ds =>
      rw [z] at e1
      exact kk os ρ1 vs H1 Hf1 items ds r1 s1 d1 z e1 fun J hj => k' H1 Hf1 J r1 s1 hj
theorem i_rng1 {tg e : Expr} {m : ME} {p pos : Pos} (h : SndL X W [e] [m]) (hg : Gl X "range") (hm : X.mg "range" = none) (hs : starEach [e] X.env = [(false, eval e X.env)]) : PI X tg (.Call (.Name "range" p) [e] [] pos) (iX (ctx X) W .rng1 [m]) := by
  refine PI.mono (pi_range1 hg hm h.pps hs) fun σ H RR ⟨F, ρ, Hf, r, p⟩ => ?_
  refine go_pps r p fun os ρ1 vs H1 Hf1 items ds r1 s1 d1 e1 e2 k => ?_
  have tp := tops_finL r1 (Same.refl _) d1 e1
  cases tp with
  | nil => cases e2
  | @cons d v ds' vs' t1 t2 =>
    cases t2 with
    | cons _ _ => cases d <;> cases e2
    | nil =>
      cases d with
      | int n =>
        have e2 : (if n.natAbs ≤ 16777216 then some (rngD 0 n.toNat) else none) = some items := e2
        split at e2
        · rename_i hn
          cases e2
          cases t1
          exact ⟨n, rfl, by omega, by omega, k _ rng_ok⟩
        · cases e2
      | _ => cases e2
theorem i_rng2 {tg e e2 : Expr} {m m2 : ME} {p pos : Pos} (h : SndL X W [e, e2] [m, m2]) (hg : Gl X "range") (hm : X.mg "range" = none) (hs : starEach [e, e2] X.env = [(false, eval e X.env), (false, eval e2 X.env)]) (hs2 : starEach [e2] X.env = [(false, eval e2 X.env)]) : PI X tg (.Call (.Name "range" p) [e, e2] [] pos) (iX (ctx X) W .rng2 [m, m2]) := by
  refine PI.mono (pi_range2 hg hm h.pps hs hs2) fun σ H RR ⟨F, ρ, Hf, r, p⟩ => ?_
  refine go_pps r p fun os ρ1 vs H1 Hf1 items ds r1 s1 d1 e1 e2 k => ?_
  have tp := tops_finL r1 (Same.refl _) d1 e1
  cases tp with
  | nil => cases e2
  | @cons d v ds' vs' t1 t2 =>
    cases t2 with
    | nil => cases d <;> cases e2
    | @cons d2 v2 ds2 vs2 t2 t3 =>
      cases t3 with
      | cons _ _ => cases d <;> cases d2 <;> cases e2
      | nil =>
        cases d <;> cases d2 <;> first | (cases e2; done) | skip
        rename_i a b
        have e2 : (if a.natAbs ≤ 16777216 ∧ b.natAbs ≤ 8000000 ∧ b - a ≤ 16777216 then some (rngD a (b - a).toNat) else none) = some items := e2
        split at e2
        · rename_i hn
          cases e2
          cases t1
          cases t2
          exact ⟨a, b, rfl, by omega, k _ rng_ok⟩
        · cases e2
theorem zipD_at : ∀ (a b : List D) (i : Nat) (d : D), (zipD a b)[i]? = some d → ∃ x y, a[i]? = some x ∧ b[i]? = some y ∧ d = .tup [x, y]
  | x :: a, y :: b, 0, d, h => by
    cases h
    exact ⟨x, y, rfl, rfl, rfl⟩
  | x :: a, y :: b, i + 1, d, h => zipD_at a b i d h
  | [], b, i, d, h => by simp [zipD] at h
  | _ :: _, [], i, d, h => by simp [zipD] at h
theorem zipD_len : ∀ (a b : List D), (zipD a b).length = min a.length b.length
  | x :: a, y :: b => by simp [zipD, zipD_len a b] <;> omega
  | [], b => by simp [zipD]
  | _ :: _, [] => by simp [zipD]
theorem i_zip {e e2 : Expr} {m m2 : ME} {p pos tpos : Pos} {elts : List Expr} {kk : Nat} (h : SndL X W [e, e2] [m, m2]) (hg : Gl X "zip") (hm : X.mg "zip" = none) (hs : starEach [e, e2] X.env = (false, eval e X.env) :: starEach [e2] X.env) (hpl : (backTo pos (starEach [e2] X.env)).any (·.1) = false) :
    PI X (.Tuple elts kk tpos) (.Call (.Name "zip" p) [e, e2] [] pos) (iX (ctx X) W .zip [m, m2]) := by
  refine PI.mono (RZ.pi_zipA hg hm h.pps hs hpl) fun σ H RR ⟨F, ρ, Hf, r, p⟩ => ?_
  refine go_pps r p fun os ρ1 vs H1 Hf1 items ds r1 s1 d1 e1 e2 k => ?_
  have d1' := d1
  obtain ⟨o, os', v, vs', rfl, rfl, q1, o2, os2, v2, vs2, rfl, rfl, q2, rfl, rfl⟩ := d1'
  have hd : ∃ da db, ds = [da, db] ∧ fin m o ρ1 = some da ∧ fin m2 o2 ρ1 = some db := by
    unfold finL at e1
    cases z1 : fin m o ρ1 with
    | none => rw [z1] at e1; cases e1
    | some da =>
      rw [z1] at e1
      unfold finL at e1
      cases z2 : fin m2 o2 ρ1 with
      | none => rw [z2] at e1; cases e1
      | some db =>
        rw [z2] at e1
        cases e1
        exact ⟨da, db, rfl, rfl, rfl⟩
  obtain ⟨da, db, rfl, z1, z2⟩ := hd
  cases da <;> cases db <;> first | (cases e2; done) | skip
  · rename_i la lb
    have e2 : some (zipD la lb) = some items := e2
    cases e2
    obtain ⟨a, vs, rfl, h1, h2⟩ := (show Den _ _ (.tup la) _ from top_fin r1 (Same.refl _) q1 z1)
    obtain ⟨b, ws, rfl, h3, h4⟩ := (show Den _ _ (.tup lb) _ from top_fin r1 (Same.refl _) q2 z2)
    refine ⟨a, b, vs, ws, rfl, .inr ⟨Same.seqT r1.sub h1, Same.seqT r1.sub h3, k _ fun F' ρ' σ' H' Hf' r' s' hl i => ?_⟩⟩
    have h1' := Same.seqT (s'.trans r'.sub) h1
    have h3' := Same.seqT (s'.trans r'.sub) h3
    refine ⟨fun dd hd => ?_, fun hle => ⟨vs, ws, h1', h3', by rw [zipD_len] at hle; rw [← Dens.length h2, ← Dens.length h4]; omega⟩⟩
    obtain ⟨x, y, g1, g2, rfl⟩ := zipD_at la lb i dd hd
    obtain ⟨wx, w1, w2⟩ := Dens.get (Dens.mono s' _ _ h2) g1
    obtain ⟨wy, w3, w4⟩ := Dens.get (Dens.mono s' _ _ h4) g2
    refine ⟨⟨vs, ws, wx, wy, h1', h3', w1, w3⟩, fun x' H2 ⟨T, x1, y1, ex, hT, eH, f1, f2⟩ => ?_⟩
    subst ex eH
    have u1 := f1 vs h1'
    have u2 := f2 ws h3'
    rw [w1] at u1
    rw [w3] at u2
    cases u1
    cases u2
    obtain ⟨r2, s2⟩ := r'.alloc hT (.tup [wx, wy])
    exact ⟨_, r2, s2, T, _, rfl, .inl (.inl upd_same), Dens.mono s2 _ _ ⟨wx, _, rfl, w2, Dens.one w4⟩⟩
  · rename_i la lb
    have e2 : some (zipD la lb) = some items := e2
    cases e2
    obtain ⟨a, vs, rfl, h1, h2⟩ := (show Top _ _ _ (.lst la) _ from top_fin r1 (Same.refl _) q1 z1)
    obtain ⟨b, ws, rfl, h3, h4⟩ := (show Top _ _ _ (.lst lb) _ from top_fin r1 (Same.refl _) q2 z2)
    refine ⟨a, b, vs, ws, rfl, .inl ⟨SqL.of h1, SqL.of h3, k _ fun F' ρ' σ' H' Hf' r' s' hl i => ?_⟩⟩
    obtain ⟨a', vs', ea, h1', h2'⟩ := (show Top _ _ _ (.lst la) _ from src_top r1 (Same.refl _) q1 z1 List.mem_cons_self r' s' hl)
    obtain ⟨b', ws', eb, h3', h4'⟩ := (show Top _ _ _ (.lst lb) _ from src_top r1 (Same.refl _) q2 z2 (List.mem_cons_of_mem _ List.mem_cons_self) r' s' hl)
    cases ea
    cases eb
    refine ⟨fun dd hd => ?_, fun hle => ⟨vs', ws', SqL.of h1', SqL.of h3', by rw [zipD_len] at hle; rw [← Dens.length h2', ← Dens.length h4']; omega⟩⟩
    obtain ⟨x, y, g1, g2, rfl⟩ := zipD_at la lb i dd hd
    obtain ⟨wx, w1, w2⟩ := Dens.get h2' g1
    obtain ⟨wy, w3, w4⟩ := Dens.get h4' g2
    refine ⟨⟨vs', ws', wx, wy, SqL.of h1', SqL.of h3', w1, w3⟩, fun x' H2 ⟨T, x1, y1, ex, hT, eH, f1, f2⟩ => ?_⟩
    subst ex eH
    have u1 := f1 vs' (SqL.of h1')
    have u2 := f2 ws' (SqL.of h3')
    rw [w1] at u1
    rw [w3] at u2
    cases u1
    cases u2
    obtain ⟨r2, s2⟩ := r'.alloc hT (.tup [wx, wy])
    exact ⟨_, r2, s2, T, _, rfl, .inl (.inl upd_same), Dens.mono s2 _ _ ⟨wx, _, rfl, w2, Dens.one w4⟩⟩
theorem enumD_at : ∀ (l : List D) (n i : Nat) (d : D), (enumD n l)[i]? = some d → ∃ x, l[i]? = some x ∧ d = .tup [.int ((n + i : Nat) : Int), x]
  | x :: l, n, 0, d, h => by
    cases h
    exact ⟨x, rfl, rfl⟩
  | x :: l, n, i + 1, d, h => by
    obtain ⟨y, h1, h2⟩ := enumD_at l (n + 1) i d h
    exact ⟨y, h1, by rw [h2, show n + 1 + i = n + (i + 1) by omega]⟩
  | [], n, i, d, h => by simp [enumD] at h
theorem enumD_len : ∀ (l : List D) (n : Nat), (enumD n l).length = l.length
  | [], n => rfl
  | x :: l, n => by simp [enumD, enumD_len l]
theorem i_enum {e : Expr} {m : ME} {p pos tpos : Pos} {elts : List Expr} {kk : Nat} (h : SndL X W [e] [m]) (hg : Gl X "enumerate") (hm : X.mg "enumerate" = none) (hs : starEach [e] X.env = [(false, eval e X.env)]) :
    PI X (.Tuple elts kk tpos) (.Call (.Name "enumerate" p) [e] [] pos) (iX (ctx X) W .enum [m]) := by
  refine PI.mono (pi_enum hg hm h.pps hs) fun σ H RR ⟨F, ρ, Hf, r, p⟩ => ?_
  refine go_pps r p fun os ρ1 vs H1 Hf1 items ds r1 s1 d1 e1 e2 k => ?_
  have d1' := d1
  obtain ⟨o, os', v, vs', rfl, rfl, q1, rfl, rfl⟩ := d1'
  rw [finL_one] at e1
  cases z1 : fin m o ρ1 with
  | none => rw [z1] at e1; cases e1
  | some da =>
    rw [z1] at e1
    cases e1
    cases da with
    | lst la =>
      have e2 : some (enumD 0 la) = some items := e2
      cases e2
      obtain ⟨a, vs, rfl, h1, h2⟩ := (show Top _ _ _ (.lst la) _ from top_fin r1 (Same.refl _) q1 z1)
      refine ⟨a, vs, rfl, SqL.of h1, k _ fun F' ρ' σ' H' Hf' r' s' hl i => ?_⟩
      obtain ⟨a', vs', ea, h1', h2'⟩ := (show Top _ _ _ (.lst la) _ from src_top r1 (Same.refl _) q1 z1 List.mem_cons_self r' s' hl)
      cases ea
      refine ⟨fun dd hd => ?_, fun hle => ⟨vs', SqL.of h1', by rw [enumD_len] at hle; rw [← Dens.length h2']; exact hle⟩⟩
      obtain ⟨x, g1, rfl⟩ := enumD_at la 0 i dd hd
      obtain ⟨wx, w1, w2⟩ := Dens.get h2' g1
      refine ⟨⟨vs', wx, SqL.of h1', w1⟩, fun x' H2 ⟨T, x1, ex, hT, eH, f1⟩ => ?_⟩
      subst ex eH
      have u1 := f1 vs' (SqL.of h1')
      rw [w1] at u1
      cases u1
      obtain ⟨r2, s2⟩ := r'.alloc hT (.tup [.int (i : Nat), wx])
      rw [Nat.zero_add]
      exact ⟨_, r2, s2, T, _, rfl, .inl (.inl upd_same), Dens.mono s2 _ _ ⟨_, _, rfl, rfl, Dens.one w2⟩⟩
    | _ => cases e2
end
end NV

/-! NV.L: targets and comprehensions. -/
namespace NV
open PySem PySem.Spec PyProof.Rows L2

/-! ### forgotten slots -/
theorem wipe_get (σ : St) : ∀ (vs : List Nat) (j : Nat), (wipe σ vs)[j]? = if j ∈ vs then (σ[j]?).map (fun _ => none) else σ[j]?
  | [], j => by simp [wipe]
  | v :: vs, j => by
    unfold wipe
    by_cases hj : v = j
    · subst hj
      rw [if_pos List.mem_cons_self]
      by_cases hl : v < σ.length
      · rw [List.getElem?_set_self (by rw [wipe_length]; exact hl), List.getElem?_eq_getElem hl]
        rfl
      · rw [List.getElem?_eq_none (by rw [List.length_set, wipe_length]; omega), List.getElem?_eq_none (by omega)]
        rfl
    · rw [List.getElem?_set_ne hj, wipe_get σ vs j]
      by_cases hm : j ∈ vs
      · rw [if_pos hm, if_pos (List.mem_cons_of_mem _ hm)]
      · rw [if_neg hm, if_neg (fun z => (List.mem_cons.mp z).elim (fun z => hj z.symm) hm)]
theorem wipe_set {σ : St} {vs : List Nat} {i : Nat} {x : Option V} (hi : i ∈ vs) : wipe (σ.set i x) vs = wipe σ vs := by
  refine List.ext_getElem? fun j => ?_
  rw [wipe_get, wipe_get]
  by_cases hj : j ∈ vs
  · rw [if_pos hj, if_pos hj]
    by_cases hij : i = j
    · subst hij
      by_cases hl : i < σ.length
      · rw [List.getElem?_set_self hl, List.getElem?_eq_getElem hl]; rfl
      · rw [List.getElem?_eq_none (by rw [List.length_set]; omega), List.getElem?_eq_none (by omega)]
    · rw [List.getElem?_set_ne hij]
  · rw [if_neg hj, if_neg hj, List.getElem?_set_ne (fun z : i = j => hj (z ▸ hi))]
theorem wipe_wipe (σ : St) (vs : List Nat) : wipe (wipe σ vs) vs = wipe σ vs := by
  refine List.ext_getElem? fun j => ?_
  rw [wipe_get, wipe_get]
  by_cases hj : j ∈ vs
  · rw [if_pos hj, if_pos hj]
    cases σ[j]? <;> rfl
  · rw [if_neg hj, if_neg hj]
theorem wipe_com (σ : St) (vs : List Nat) (v : Nat) : wipe (σ.set v none) vs = (wipe σ vs).set v none := by
  refine List.ext_getElem? fun j => ?_
  rw [wipe_get]
  by_cases hij : v = j
  · subst hij
    by_cases hl : v < σ.length
    · rw [List.getElem?_set_self hl, List.getElem?_set_self (by rw [wipe_length]; exact hl)]
      split <;> rfl
    · rw [List.getElem?_eq_none (by rw [List.length_set]; omega), List.getElem?_eq_none (by rw [List.length_set, wipe_length]; omega)]
      split <;> rfl
  · rw [List.getElem?_set_ne hij, List.getElem?_set_ne hij, wipe_get]
section
variable {c : Ct} {F F' : Fr} {ρ ρ' ρ1 : Rho} {σ : St} {H Hf H1 Hf1 : Hp}
theorem R.wipe : ∀ {vs : List Nat} {ρ : Rho} {σ : St}, R c F ρ σ H Hf → wipeE vs ρ = some ρ' → R c F ρ' (L2.wipe σ vs) H Hf
  | [], ρ, σ, r, h => by
    cases h
    exact r
  | v :: vs, ρ, σ, r, h => by
    unfold wipeE at h
    have go : ∀ e0, ρ[v]? = some e0 → (e0 = .un ∨ ∃ d, e0 = .im d) → wipeE vs (ρ.set v .un) = some ρ' → R c F ρ' (L2.wipe σ (v :: vs)) H Hf := fun e0 q k h => by
      have r2 : R c F (ρ.set v .un) (σ.set v none) H Hf := r.setUn (by
        unfold setE
        rw [q]
        rcases k with rfl | ⟨d, rfl⟩ <;> rfl)
      have r3 := R.wipe r2 h
      rw [wipe_com] at r3
      exact r3
    split at h
    · rename_i q
      exact go _ q (.inl rfl) h
    · rename_i d q
      exact go _ q (.inr ⟨d, rfl⟩) h
    · cases h
theorem wipeE_len : ∀ {vs : List Nat} {ρ : Rho}, wipeE vs ρ = some ρ' → ρ'.length = ρ.length
  | [], ρ, h => by cases h; rfl
  | v :: vs, ρ, h => by
    unfold wipeE at h
    split at h
    · rw [wipeE_len h, List.length_set]
    · rw [wipeE_len h, List.length_set]
    · cases h
/-- what was wiped was no own container -/
theorem wipeE_at : ∀ {vs : List Nat} {ρ : Rho}, wipeE vs ρ = some ρ' → ∀ j ∈ vs, ρ[j]? = some .un ∨ ∃ d, ρ[j]? = some (.im d)
  | [], ρ, h, j, hj => by cases hj
  | v :: vs, ρ, h, j, hj => by
    unfold wipeE at h
    have go : wipeE vs (ρ.set v .un) = some ρ' → (ρ[v]? = some .un ∨ ∃ d, ρ[v]? = some (.im d)) → ρ[j]? = some .un ∨ ∃ d, ρ[j]? = some (.im d) := fun h k => by
      by_cases hv : v = j
      · subst hv; exact k
      · have := wipeE_at h j ((List.mem_cons.mp hj).resolve_left fun z => hv z.symm)
        rw [List.getElem?_set_ne hv] at this
        exact this
    split at h
    · rename_i q
      exact go h (.inl q)
    · rename_i d q
      exact go h (.inr ⟨d, q⟩)
    · cases h
theorem backE_len (ρ0 : Rho) : ∀ (vs : List Nat) (ρ : Rho), (backE ρ0 vs ρ).length = ρ.length
  | [], ρ => rfl
  | v :: vs, ρ => by
    unfold backE
    rw [backE_len ρ0 vs, List.length_set]
theorem backE_at (ρ0 : Rho) : ∀ (vs : List Nat) (ρ : Rho) (j : Nat), (backE ρ0 vs ρ)[j]? = if j ∈ vs ∧ j < ρ.length then some (ρ0[j]?.getD .un) else ρ[j]?
  | [], ρ, j => by simp [backE]
  | v :: vs, ρ, j => by
    unfold backE
    rw [backE_at ρ0 vs, List.length_set]
    by_cases hl : j < ρ.length
    · by_cases hm : j ∈ vs
      · rw [if_pos ⟨hm, hl⟩, if_pos ⟨List.mem_cons_of_mem _ hm, hl⟩]
      · rw [if_neg (fun z => hm z.1)]
        by_cases hv : v = j
        · subst hv
          rw [if_pos ⟨List.mem_cons_self, hl⟩, List.getElem?_set_self hl]
        · rw [if_neg (fun z => (List.mem_cons.mp z.1).elim (fun z => hv z.symm) hm), List.getElem?_set_ne hv]
    · rw [if_neg (fun z => hl z.2), if_neg (fun z => hl z.2), List.getElem?_eq_none (by rw [List.length_set]; omega), List.getElem?_eq_none (by omega)]
/-- the slots put back -/
theorem R.back {vs : List Nat} {ρe : Rho} {He Hfe : Hp} (r1 : R c F ρ1 σ H1 Hf1) (hv : ∀ j ∈ vs, ρ1[j]? = some .un ∨ ∃ d, ρ1[j]? = some (.im d)) (r : R c F' ρe (L2.wipe σ vs) He Hfe) (s : Same Hf1 Hfe) : R c F' (backE ρ1 vs ρe) σ He Hfe := by
  have hl : ρe.length = σ.length := by rw [r.len, wipe_length]
  -- what an entry is
  have at_ : ∀ j e, (backE ρ1 vs ρe)[j]? = some e → (j ∉ vs ∧ ρe[j]? = some e ∧ (L2.wipe σ vs)[j]? = σ[j]?) ∨ (j ∈ vs ∧ ρ1[j]? = some e ∧ (e = .un ∨ ∃ d, e = .im d)) := fun j e h => by
    rw [backE_at] at h
    by_cases hm : j ∈ vs
    · by_cases hj : j < ρe.length
      · rw [if_pos ⟨hm, hj⟩] at h
        rcases hv j hm with q | ⟨d, q⟩
        · rw [q] at h
          cases h
          exact .inr ⟨hm, q, .inl rfl⟩
        · rw [q] at h
          cases h
          exact .inr ⟨hm, q, .inr ⟨d, rfl⟩⟩
      · rw [if_neg (fun z => hj z.2), List.getElem?_eq_none (by omega)] at h
        cases h
    · rw [if_neg (fun z => hm z.1)] at h
      exact .inl ⟨hm, h, by rw [wipe_get, if_neg hm]⟩
  have oa : ∀ i a, OwnAt (backE ρ1 vs ρe) σ i a → OwnAt ρe (L2.wipe σ vs) i a := fun i a ⟨e, d, h1, h2, h3⟩ => by
    rcases at_ i e h1 with ⟨q1, q2, q3⟩ | ⟨q1, q2, q3⟩
    · exact ⟨e, d, q2, h2, by rw [q3]; exact h3⟩
    · rcases q3 with rfl | ⟨d', rfl⟩ <;> cases h2
  refine ⟨by rw [backE_len]; exact hl, r.sub, r.subf, r.live, r.keep, r.out, fun i d h => ?_, fun i e d h1 h2 => ?_, fun i j a h1 h2 => r.dist i j a (oa _ _ h1) (oa _ _ h2), fun i d a h1 h2 => ?_, fun i d a h1 h2 => ?_, fun i a o h => ?_, fun i d h => ?_, fun b u q => ?_⟩
  · rcases at_ i _ h with ⟨q1, q2, q3⟩ | ⟨q1, q2, q3⟩
    · obtain ⟨v, w1, w2⟩ := r.im i d q2
      exact ⟨v, by rw [← q3]; exact w1, w2⟩
    · obtain ⟨v, w1, w2⟩ := r1.im i d q2
      exact ⟨v, w1, Den.mono s _ _ w2⟩
  · rcases at_ i _ h1 with ⟨q1, q2, q3⟩ | ⟨q1, q2, q3⟩
    · obtain ⟨a, w1, w2⟩ := r.own i e d q2 h2
      exact ⟨a, by rw [← q3]; exact w1, w2⟩
    · rcases q3 with rfl | ⟨d', rfl⟩ <;> cases h2
  · rcases at_ i _ h1 with ⟨q1, q2, q3⟩ | ⟨q1, q2, q3⟩
    · exact r.ow i d a q2 (by rw [q3]; exact h2)
    · rcases q3 with q3 | ⟨d', q3⟩ <;> cases q3
  · rcases at_ i _ h1 with ⟨q1, q2, q3⟩ | ⟨q1, q2, q3⟩
    · exact r.io i d a q2 (by rw [q3]; exact h2)
    · rcases q3 with q3 | ⟨d', q3⟩ <;> cases q3
  · obtain ⟨w1, e, w2, w3⟩ := r.pin i a o h
    obtain ⟨z1, z2⟩ := wipe_some w1
    exact ⟨z1, e, by rw [backE_at, if_neg (fun z => z2 z.1)]; exact w2, w3⟩
  · rcases at_ i _ h with ⟨q1, q2, q3⟩ | ⟨q1, q2, q3⟩
    · exact r.brL i d q2
    · rcases q3 with q3 | ⟨d', q3⟩ <;> cases q3
  · obtain ⟨q1, q2, q3⟩ := r.grd b u q
    exact ⟨q1, q2, fun i w => q3 i (oa _ _ w)⟩
end

/-! ### targets -/
def gNs : List Nat → TGs
  | [] => gNil
  | i :: is => gCons (gName i) (gNs is)
def gT (c : Ct) : Tg → TG
  | .nm i => gName i
  | .tp l => gTup c.K l.length (gNs l)
def tgIdx : Tg → List Nat
  | .nm i => [i]
  | .tp l => l
theorem setTs_len : ∀ {l : List Nat} {ds : List D} {ρ ρ' : Rho}, setTs l ds ρ = some ρ' → ds.length = l.length
  | [], [], _, _, _ => rfl
  | [], _ :: _, _, _, h => by cases h
  | _ :: _, [], _, _, h => by cases h
  | i :: is, d :: ds, ρ, ρ', h => by
    unfold setTs at h
    split at h
    · rw [List.length_cons, List.length_cons, setTs_len h]
    · cases h
section
variable {c : Ct} {F : Fr} {H Hf : Hp}
theorem gNs_ok : ∀ {l : List Nat} {ds : List D} {vs : List V} {ρ ρ' : Rho} {σ : St} {Q : St → Hp → Prop}, R c F ρ σ H Hf → Dens c Hf ds vs → setTs l ds ρ = some ρ' →
    (∀ σ2, R c F ρ' σ2 H Hf → (∀ own, (∀ i ∈ l, i ∈ own) → wipe σ2 own = wipe σ own) → Q σ2 H) → gNs l vs σ H Q
  | [], ds, vs, ρ, ρ', σ, Q, r, dn, h, k => by
    cases ds with
    | cons _ _ => cases h
    | nil =>
      cases h
      exact ⟨Dens.nil_iff.mp dn, k σ r fun _ _ => rfl⟩
  | i :: is, ds, vs, ρ, ρ', σ, Q, r, dn, h, k => by
    cases ds with
    | nil => cases h
    | cons d ds =>
      obtain ⟨v, vs', rfl, d1, d2⟩ := dn
      unfold setTs at h
      cases q : setE ρ i (.im d) with
      | none => rw [q] at h; cases h
      | some ρ2 =>
        rw [q] at h
        refine ⟨v, vs', rfl, gNs_ok (r.setIm q d1) d2 h fun σ2 r2 w2 => k σ2 r2 fun own ho => ?_⟩
        rw [w2 own fun j hj => ho j (List.mem_cons_of_mem _ hj), wipe_set (ho i List.mem_cons_self)]
theorem gT_ok {tg : Tg} {d : D} {v : V} {ρ ρ' : Rho} {σ : St} {Q : St → Hp → Prop} (r : R c F ρ σ H Hf) (dn : Den c Hf d v) (h : setT tg d ρ = some ρ')
    (k : ∀ σ2, R c F ρ' σ2 H Hf → (∀ own, (∀ i ∈ tgIdx tg, i ∈ own) → wipe σ2 own = wipe σ own) → Q σ2 H) : gT c tg v σ H Q := by
  cases tg with
  | nm i => exact k _ (r.setIm h dn) fun own ho => wipe_set (ho i List.mem_cons_self)
  | tp l =>
    cases d with
    | tup ds =>
      obtain ⟨a, vs, rfl, h1, h2⟩ := dn
      have h : setTs l ds ρ = some ρ' := h
      exact ⟨a, vs, rfl, Same.seqT r.sub h1, by rw [← Dens.length h2, setTs_len h], gNs_ok r h2 h k⟩
    | _ => cases h
end

/-! ### comprehensions -/
abbrev W0 : WX := fun _ _ _ _ => False
/-- the turns so far: the new list at D -/
def CI (c : Ct) (F0 : Fr) (D : Addr) (σw : St) (Hf1 : Hp) (elt : Ev) (ifs : Rho → Out Rho (Bool × Rho)) (tg : Tg) (own : List Nat) (items all : List NV.D) (ρe : Rho) (i : Nat) (H : Hp) : Prop :=
  ∃ ρi Hfi acc ds rest, R c (F0.grd D (.lst acc)) ρi σw H Hfi ∧ Same Hf1 Hfi ∧ Dens c Hfi ds acc ∧ compLoop elt ifs tg own (items.drop i) ρi = .ok (rest, ρe) ∧ ds ++ rest = all ∧ acc.length ≤ i
theorem lc_wish {c : Ct} {W : WX} {k : IK} {args : List ME} {m : ME} {tg : Tg} {ifs : List ME} {own : List Nat} {σ : St} {H : Hp} {Q : VK} (ho : ∀ i ∈ tgIdx tg, i ∈ own)
    (h : tvF c W (ev (.comp m tg k args ifs own)) σ H Q) : tLc (iX c W k args) (gT c tg) (tvG c W0 dI (evIfs ifs)) (tv c W0 (ev m)) own σ H Q := by
  obtain ⟨F, ρ, Hf, r, p⟩ := h
  have p : PostF c F W σ Q Hf ((pres args ρ).bind fun x => match (finL args x.1 x.2).bind (iterD k) with
    | none => .stuck
    | some items => match if items.length ≤ szl then wipeE own (lockE args x.2) else none with
      | none => .stuck
      | some ρ2 => (noexc (compLoop (ev m) (evIfs ifs) tg own items ρ2)).bind fun y => .ok (.lst y.1, unlockE x.2 args (backE x.2 own y.2))) := p
  refine ⟨F, ρ, Hf, r, ?_⟩
  cases q : pres args ρ with
  | stuck => rw [q] at p; exact p.elim
  | exc n ρ' => rw [q] at p; exact p
  | ok x =>
    obtain ⟨os, ρ1⟩ := x
    rw [q] at p
    have p : PostF c F W σ Q Hf (match (finL args os ρ1).bind (iterD k) with
      | none => .stuck
      | some items => match if items.length ≤ szl then wipeE own (lockE args ρ1) else none with
        | none => .stuck
        | some ρ2 => (noexc (compLoop (ev m) (evIfs ifs) tg own items ρ2)).bind fun y => .ok (.lst y.1, unlockE ρ1 args (backE ρ1 own y.2))) := p
    cases q2 : (finL args os ρ1).bind (iterD k) with
    | none => rw [q2] at p; exact p.elim
    | some items =>
      rw [q2] at p
      have p : PostF c F W σ Q Hf (match if items.length ≤ szl then wipeE own (lockE args ρ1) else none with
        | none => .stuck
        | some ρ2 => (noexc (compLoop (ev m) (evIfs ifs) tg own items ρ2)).bind fun y => .ok (.lst y.1, unlockE ρ1 args (backE ρ1 own y.2))) := p
      by_cases hz : items.length ≤ szl
      · rw [if_pos hz] at p
        cases q3 : wipeE own (lockE args ρ1) with
        | none => rw [q3] at p; exact p.elim
        | some ρ2 =>
          rw [q3] at p
          have p : PostF c F W σ Q Hf ((noexc (compLoop (ev m) (evIfs ifs) tg own items ρ2)).bind fun y => .ok (.lst y.1, unlockE ρ1 args (backE ρ1 own y.2))) := p
          cases q4 : compLoop (ev m) (evIfs ifs) tg own items ρ2 with
          | stuck => rw [q4] at p; exact p.elim
          | exc n ρ' => rw [q4] at p; exact p.elim
          | ok y =>
            obtain ⟨all, ρe⟩ := y
            rw [q4] at p
            have p : PostF c F W σ Q Hf (.ok (.lst all, unlockE ρ1 args (backE ρ1 own ρe))) := p
            refine ⟨items, q2, fun H1 Hf1 J r1 s1 it D hD => ?_⟩
            refine ⟨fun i mm H => mm = items.length - i ∧ i ≤ items.length ∧ CI c (F.lock args ρ1 σ) D (wipe σ own) Hf1 (ev m) (evIfs ifs) tg own items all ρe i H, ⟨items.length, by simp, Nat.zero_le _, ?_⟩, ?_⟩
            · -- at first
              have r2 := (r1.lock args).wipe q3
              have r3 := r2.allocOwn hD (.lst [])
              obtain ⟨f1, f2⟩ := r2.free hD
              have r4 := r3.guard (a := D) (o := .lst []) upd_same f1 fun i hi => r2.own_ne hi hD rfl
              exact ⟨ρ2, Hf1, [], [], all, r4, Same.refl _, Dens.nil_iff.mpr rfl, q4, rfl, Nat.le_refl _⟩
            · rintro i mm Hi ⟨rfl, hi, ρi, Hfi, acc, ds, rest, ri, si, di, ei, ai, li⟩
              have hF : ∀ o, (F.lock args ρ1 σ).G D ≠ some o := fun o z => by
                have := (r1.grd D o z).1
                rw [hD] at this
                cases this
              have hF0 : (F.lock args ρ1 σ).H0 D = none := (r1.free hD).2
              have hG : (F.lock args ρ1 σ).G D = none := by
                cases z : (F.lock args ρ1 σ).G D with
                | none => rfl
                | some o => exact absurd z (hF o)
              have iti := it _ ρi (wipe σ own) Hi Hfi ri si (fun j a d h1 h2 => ?_) i
              rotate_left
              · -- what is walked is pinned
                exact .inr ⟨d, rfl, h1, h2⟩
              by_cases hlt : i < items.length
              · have hdrop : items.drop i = items[i] :: items.drop (i + 1) := List.drop_eq_getElem_cons hlt
                rw [hdrop] at ei
                have ei : ((compStep (ev m) (evIfs ifs) tg own items[i] ρi).bind fun r => (compLoop (ev m) (evIfs ifs) tg own (items.drop (i + 1)) r.2).bind fun q => .ok (r.1 ++ q.1, q.2)) = (.ok (rest, ρe) : Out Rho (List NV.D × Rho)) := ei
                cases c1 : compStep (ev m) (evIfs ifs) tg own items[i] ρi with
                | stuck => rw [c1] at ei; cases ei
                | exc _ _ => rw [c1] at ei; cases ei
                | ok u =>
                  obtain ⟨ns, ρn⟩ := u
                  rw [c1] at ei
                  have ei : ((compLoop (ev m) (evIfs ifs) tg own (items.drop (i + 1)) ρn).bind fun q => .ok (ns ++ q.1, q.2)) = (.ok (rest, ρe) : Out Rho (List NV.D × Rho)) := ei
                  cases c2 : compLoop (ev m) (evIfs ifs) tg own (items.drop (i + 1)) ρn with
                  | stuck => rw [c2] at ei; cases ei
                  | exc _ _ => rw [c2] at ei; cases ei
                  | ok w =>
                    obtain ⟨rest', ρe'⟩ := w
                    rw [c2] at ei
                    cases ei
                    obtain ⟨hgo, hy⟩ := iti.1 items[i] (List.getElem?_eq_getElem hlt)
                    refine .inr ⟨hgo, CI c (F.lock args ρ1 σ) D (wipe σ own) Hf1 (ev m) (evIfs ifs) tg own items all ρe' (i + 1), fun H' n' => ⟨items.length - (i + 1), by omega, rfl, hlt, n'⟩, fun x H2 y => ?_⟩
                    obtain ⟨Hf2, r2, s2, d2⟩ := hy x H2 y
                    unfold compStep at c1
                    cases c3 : setT tg items[i] ρi with
                    | none => rw [c3] at c1; cases c1
                    | some ρ3 =>
                      rw [c3] at c1
                      refine gT_ok r2 d2 c3 fun σ2 r3 w3 => ⟨by rw [w3 own ho, wipe_wipe], ?_⟩
                      have hwi : wipe σ2 own = wipe σ own := by rw [w3 own ho, wipe_wipe]
                      refine ⟨_, ρ3, Hf2, r3, ?_⟩
                      have c1 : ((evIfs ifs ρ3).bind fun r => if r.1 then (ev m r.2).bind fun x => wiped own [x.1] x.2 else wiped own [] r.2) = (.ok (ns, ρn) : Out Rho (List NV.D × Rho)) := c1
                      cases c4 : evIfs ifs ρ3 with
                      | stuck => rw [c4] at c1; cases c1
                      | exc _ _ => rw [c4] at c1; cases c1
                      | ok u =>
                        obtain ⟨b, ρ4⟩ := u
                        rw [c4] at c1
                        intro b' H3 Hf3 r4 s4 e4
                        have e4 : b = b' := e4
                        subst e4
                        have wipedOk : ∀ {ns' : List NV.D} {ρ5 : Rho}, wiped own ns' ρ5 = (.ok (ns, ρn) : Out Rho (List NV.D × Rho)) → ns' = ns ∧ wipeE own ρ5 = some ρn := fun {ns' ρ5} z => by
                          unfold wiped at z
                          cases z2 : wipeE own ρ5 with
                          | none => rw [z2] at z; cases z
                          | some _ => rw [z2] at z; cases z; exact ⟨rfl, rfl⟩
                        cases b with
                        | false =>
                          obtain ⟨z1, z2⟩ := wipedOk (show wiped own [] ρ4 = _ from c1)
                          subst z1
                          rw [if_neg (by simp)]
                          have r5 := r4.wipe z2
                          rw [hwi] at r5
                          exact ⟨ρn, Hf3, acc, ds, rest', r5, si.trans (s2.trans s4), Dens.mono (s2.trans s4) _ _ di, c2, by simpa using ai, by omega⟩
                        | true =>
                          rw [if_pos rfl]
                          refine ⟨_, ρ4, Hf3, r4, ?_⟩
                          have c1 : ((ev m ρ4).bind fun x => wiped own [x.1] x.2) = (.ok (ns, ρn) : Out Rho (List NV.D × Rho)) := c1
                          cases c5 : ev m ρ4 with
                          | stuck => rw [c5] at c1; cases c1
                          | exc _ _ => rw [c5] at c1; cases c1
                          | ok u =>
                            obtain ⟨dy, ρ5⟩ := u
                            rw [c5] at c1
                            obtain ⟨z1, z2⟩ := wipedOk (show wiped own [dy] ρ5 = _ from c1)
                            subst z1
                            intro vy H4 Hf4 r5 s5 d5
                            obtain ⟨g1, g2, g3⟩ := r5.grd_at
                            refine ⟨acc, g1, by rw [← szl_eq]; omega, ?_⟩
                            have r6 := (r5.unguard hG).touch (o := .lst (acc ++ [vy])) g2 hF0 g3 hG
                            have r7 := (r6.guard upd_same g2 g3).wipe z2
                            rw [hwi] at r7
                            have ss := s2.trans (s4.trans s5)
                            exact ⟨ρn, Hf4, acc ++ [vy], ds ++ [dy], rest', r7, si.trans ss, Dens.append (Dens.mono ss _ _ di) (Dens.one d5), c2, by simpa using ai, by simp; omega⟩
              · have hil : i = items.length := by omega
                subst hil
                refine .inl ⟨iti.2 (Nat.le_refl _), ?_⟩
                rw [List.drop_length] at ei
                cases ei
                have ai : ds = all := by simpa using ai
                subst ai
                obtain ⟨g1, g2, g3⟩ := ri.grd_at
                have hown : ∀ j ∈ own, ρ1[j]? = some .un ∨ ∃ d, ρ1[j]? = some (.im d) := fun j hj => by
                  have := wipeE_at q3 j hj
                  rcases lockE_at args ρ1 j with z | ⟨d, z1, z2⟩
                  · rw [z] at this; exact this
                  · rw [z2] at this
                    rcases this with this | ⟨_, this⟩ <;> cases this
                have rb := R.back r1 hown (ri.unguard hG) si
                have ru := r1.unlock rb
                refine p D Hi Hfi ru (s1.trans si) ⟨g2, acc, g1, di⟩ hF0 (fun j hj => ?_) hG
                -- no own name holds it
                obtain ⟨e, d, w1, w2, w3⟩ := hj
                have hoa : ∃ e' d', (backE ρ1 own ρe)[j]? = some e' ∧ e'.own? = some d' := by
                  have hjl : j < (backE ρ1 own ρe).length := by
                    have := lt_of_get w1
                    rw [unlockE_len] at this
                    exact this
                  rcases unlockE_at ρ1 args (backE ρ1 own ρe) j hjl with ⟨u1, _⟩ | ⟨u1, ⟨d3, u2⟩, u3⟩
                  · rw [u1] at w1; exact ⟨e, d, w1, w2⟩
                  · -- a locked one
                    rw [u3] at w1
                    obtain ⟨b, y1, y2⟩ := r1.own j e d w1 w2
                    rw [w3] at y1
                    cases y1
                    obtain ⟨o, y3⟩ := y2.there
                    rw [hD] at y3
                    cases y3
                obtain ⟨e', d', v1, v2⟩ := hoa
                rw [backE_at] at v1
                by_cases hm : j ∈ own ∧ j < ρe.length
                · rw [if_pos hm] at v1
                  rcases hown j hm.1 with z | ⟨d3, z⟩ <;> (rw [z] at v1; cases v1; cases v2)
                · rw [if_neg hm] at v1
                  have hjn : j ∉ own := fun z => hm ⟨z, lt_of_get v1⟩
                  exact g3 j ⟨e', d', v1, v2, by rw [wipe_get, if_neg hjn]; exact w3⟩
      · rw [if_neg hz] at p; exact p.elim
end NV

/-! NV.M: statements. -/
namespace NV
open PySem PySem.Spec PyProof.Rows L2

def PostS (c : Ct) (F : Fr) (W : WX) (fr : Bool) (D : Ends) (Hf : Hp) : ResS → Prop
  | .stuck => False
  | .ok (.nx, ρ') => ∀ σ' H' Hf', R c F ρ' σ' H' Hf' → Same Hf Hf' → D.nx σ' H'
  | .ok (.ret d, ρ') => ∀ σ' v H' Hf', R c F ρ' σ' H' Hf' → Same Hf Hf' → (if fr then ∃ a, v = .ref a ∧ Own c Hf' H' d a ∧ F.H0 a = none else Den c Hf' d v) → D.rt v H'
  | .exc n ρ' => ∀ σ' H' Hf' C, R c F ρ' σ' H' Hf' → Same Hf Hf' → c.mg (Str.ofString n) = some (.ref C) → W (.ref C) none σ' H'
def tvS (c : Ct) (W : WX) (fr : Bool) (e : EvS) : TS := fun D σ H => ∃ F ρ Hf, R c F ρ σ H Hf ∧ PostS c F W fr D Hf (e ρ)
theorem PostS.mono {c : Ct} {F : Fr} {W : WX} {fr : Bool} {D : Ends} {Hf Hf' : Hp} (s : Same Hf Hf') {o : ResS} (p : PostS c F W fr D Hf o) : PostS c F W fr D Hf' o := by
  cases o with
  | stuck => exact p
  | ok a =>
    obtain ⟨f, ρ'⟩ := a
    cases f with
    | nx => exact fun σ' H' Hf2 r s2 => p σ' H' Hf2 r (s.trans s2)
    | ret d => exact fun σ' v H' Hf2 r s2 => p σ' v H' Hf2 r (s.trans s2)
  | exc n ρ' => exact fun σ' H' Hf2 C r s2 m => p σ' H' Hf2 C r (s.trans s2) m
theorem PS.mono {X : Cx} {st : Stmt} {t t' : TS} (h : PS X st t) (k : ∀ D σ H, t' D σ H → t D σ H) : PS X st t' := ⟨fun pins s σ H D I q => h.run pins s σ H D I (k D σ H q)⟩
theorem PSs.mono {X : Cx} {st : List Stmt} {t t' : TS} (h : PSs X st t) (k : ∀ D σ H, t' D σ H → t D σ H) : PSs X st t' := ⟨fun pins s σ H D I q => h.run pins s σ H D I (k D σ H q)⟩
structure SndS (X : Cx) (W : WX) (fr : Bool) (n : Nat) (st : Stmt) (m : MS) : Prop where
  ps : PS X st (tvS (ctx X) W fr (evS n m))
structure SndB (X : Cx) (W : WX) (fr : Bool) (n : Nat) (st : List Stmt) (m : List MS) : Prop where
  ps : PSs X st (tvS (ctx X) W fr (evSs n m))
section
variable {X : Cx} {W : WX} {fr : Bool} {n : Nat} {st : Stmt} {sts : List Stmt} {m : MS} {ms : List MS} {pos : Pos}
/-- an expression ahead of the rest of a statement -/
theorem stepS {c : Ct} {α β : Type} {F : Fr} {ρ : Rho} {σ : St} {H Hf : Hp} {D : Ends} {dnS : St → α → β → Hp → Prop} {Q' : β → Hp → Prop} {e : Rho → Out Rho (α × Rho)} {f : α × Rho → ResS} (r : R c F ρ σ H Hf) (p : PostS c F W fr D Hf ((e ρ).bind f))
    (k : ∀ a ρ' b H' Hf', R c F ρ' σ H' Hf' → Same Hf Hf' → dnS σ a b Hf' → PostS c F W fr D Hf' (f (a, ρ')) → Q' b H') : tvG c W dnS e σ H Q' := by
  refine ⟨F, ρ, Hf, r, ?_⟩
  cases h : e ρ with
  | stuck => rw [h] at p; exact p
  | ok a =>
    obtain ⟨a, ρ'⟩ := a
    rw [h] at p
    intro b H' Hf' r' s' d
    exact k a ρ' b H' Hf' r' s' d (PostS.mono s' p)
  | exc n ρ' => rw [h] at p; exact fun H' Hf' C r' s' m' => p σ H' Hf' C r' s' m'
theorem stepSF {c : Ct} {F : Fr} {ρ : Rho} {σ : St} {H Hf : Hp} {D : Ends} {Q' : VK} {e : Ev} {f : NV.D × Rho → ResS} (r : R c F ρ σ H Hf) (p : PostS c F W fr D Hf ((e ρ).bind f))
    (k : ∀ d ρ' a H' Hf', R c F ρ' σ H' Hf' → Same Hf Hf' → Own c Hf' H' d a → F.H0 a = none → (∀ i, ¬ OwnAt ρ' σ i a) → F.G a = none → PostS c F W fr D Hf' (f (d, ρ')) → Q' (.ref a) H') : tvF c W e σ H Q' := by
  refine ⟨F, ρ, Hf, r, ?_⟩
  cases h : e ρ with
  | stuck => rw [h] at p; exact p
  | ok a =>
    obtain ⟨d, ρ'⟩ := a
    rw [h] at p
    intro a H' Hf' r' s' w h0 hu hg
    exact k d ρ' a H' Hf' r' s' w h0 hu hg (PostS.mono s' p)
  | exc n ρ' => rw [h] at p; exact fun H' Hf' C r' s' m' => p σ H' Hf' C r' s' m'
theorem ss_nil : SndB X W fr n [] [] := ⟨PSs.mono pss_nil fun D σ H ⟨F, ρ, Hf, r, p⟩ => p σ H Hf r (Same.refl _)⟩
theorem seq_wish {D : Ends} {σ : St} {H : Hp} {c : Ct} (h : tvS c W fr (evSs n (m :: ms)) D σ H) : tSeq (tvS c W fr (evS n m)) (tvS c W fr (evSs n ms)) D σ H := by
  obtain ⟨F, ρ, Hf, r, p⟩ := h
  have p : PostS c F W fr D Hf ((evS n m ρ).bind fun r => match r.1 with
    | .nx => evSs n ms r.2
    | .ret v => .ok (.ret v, r.2)) := p
  refine ⟨F, ρ, Hf, r, ?_⟩
  cases q : evS n m ρ with
  | stuck => rw [q] at p; exact p
  | exc _ _ => rw [q] at p; exact p
  | ok x =>
    obtain ⟨f, ρ'⟩ := x
    rw [q] at p
    cases f with
    | nx => exact fun σ' H' Hf' r' s' => ⟨F, ρ', Hf', r', PostS.mono s' p⟩
    | ret d => exact p
theorem ss_cons (h : SndS X W fr n st m) (t : SndB X W fr n sts ms) : SndB X W fr n (st :: sts) (m :: ms) := ⟨PSs.mono (pss_cons h.ps t.ps) fun D σ H q => seq_wish q⟩
/-- target = value -/
theorem asg_wish {c : Ct} {D : Ends} {σ : St} {H : Hp} {tg : Tg} {e : ME} (h : tvS c W fr (evS n (.asg tg e)) D σ H) : tAsg (tv c W (ev e)) (gT c tg) D σ H := by
  obtain ⟨F, ρ, Hf, r, p⟩ := h
  refine stepS (dnS := dE c) (f := fun x => match setT tg x.1 x.2 with | some ρ' => .ok (.nx, ρ') | none => .stuck) r p fun d ρ' v H' Hf' r' s' dn p' => ?_
  cases q : setT tg d ρ' with
  | none =>
    have p' : PostS c F W fr D Hf' (match setT tg d ρ' with | some ρ' => .ok (.nx, ρ') | none => .stuck) := p'
    rw [q] at p'; exact p'.elim
  | some ρ2 =>
    have p' : PostS c F W fr D Hf' (match setT tg d ρ' with | some ρ' => .ok (.nx, ρ') | none => .stuck) := p'
    rw [q] at p'
    exact gT_ok r' dn q fun σ2 r2 _ => p' σ2 H' Hf' r2 (Same.refl _)
theorem ss_asg {tgx x : Expr} {tg : Tg} {e : ME} (h : Snd X W x e) (hg : PG X tgx (gT (ctx X) tg)) (hs : swapsWithSole [tgx] x pos.line X.env = pure false) (hw : swappedStores [tgx] x X.env = pure none) (h1 : (assignEach [tgx] X.env).map (·.2) = [assign tgx X.env]) : SndS X W fr n (.Assign [tgx] x pos) (.asg tg e) :=
  ⟨PS.mono (ps_asg h.pe hg hs hw h1) fun D σ H q => asg_wish q⟩
/-- name = a new container, which the name owns -/
theorem asgF_wish {c : Ct} {D : Ends} {σ : St} {H : Hp} {i : Nat} {e : ME} (h : tvS c W fr (evS n (.asgF i e)) D σ H) : tAsg (tvF c W (ev e)) (gName i) D σ H := by
  obtain ⟨F, ρ, Hf, r, p⟩ := h
  have p : PostS c F W fr D Hf (if isFresh e then (ev e ρ).bind fun x => match setE x.2 i (.ow x.1) with
    | some ρ' => .ok (.nx, ρ')
    | none => .stuck else .stuck) := p
  split at p
  · refine stepSF (f := fun x => match setE x.2 i (.ow x.1) with | some ρ' => .ok (.nx, ρ') | none => .stuck) r p fun d ρ' a H' Hf' r' s' w h0 hu hg p' => ?_
    have p' : PostS c F W fr D Hf' (match setE ρ' i (.ow d) with | some ρ' => .ok (.nx, ρ') | none => .stuck) := p'
    cases q : setE ρ' i (.ow d) with
    | none => rw [q] at p'; exact p'.elim
    | some ρ2 =>
      rw [q] at p'
      exact p' _ H' Hf' (r'.setOw q w h0 hu hg) (Same.refl _)
  · exact p.elim
theorem ss_asgF {tgx x : Expr} {i : Nat} {e : ME} (h : SndF X W x e) (hg : PG X tgx (gName i)) (hs : swapsWithSole [tgx] x pos.line X.env = pure false) (hw : swappedStores [tgx] x X.env = pure none) (h1 : (assignEach [tgx] X.env).map (·.2) = [assign tgx X.env]) : SndS X W fr n (.Assign [tgx] x pos) (.asgF i e) :=
  ⟨PS.mono (ps_asg h.pf hg hs hw h1) fun D σ H q => asgF_wish q⟩
/-- a comprehension that goes to a name at once -/
structure SndLc (X : Cx) (W : WX) (st : Stmt) (i : Nat) (e : ME) : Prop where
  ex : ∃ te : TE, PS X st (tAsg te (gName i)) ∧ ∀ σ H Q, tvF (ctx X) W (ev e) σ H Q → te σ H Q
theorem tvF.imp {c : Ct} {e : Ev} {σ : St} {H : Hp} {Q Q' : VK} (h : tvF c W e σ H Q) (k : ∀ v H, Q v H → Q' v H) : tvF c W e σ H Q' := by
  obtain ⟨F, ρ, Hf, r, p⟩ := h
  refine ⟨F, ρ, Hf, r, ?_⟩
  cases q : e ρ with
  | stuck => rw [q] at p; exact p
  | exc _ _ => rw [q] at p; exact p
  | ok x =>
    obtain ⟨d, ρ'⟩ := x
    rw [q] at p
    exact fun a H' Hf' r s w h0 hu hg => k _ _ (p a H' Hf' r s w h0 hu hg)
theorem ss_lcF {i : Nat} {e : ME} (h : SndLc X W st i e) : SndS X W fr n st (.asgF i e) := by
  obtain ⟨te, h1, h2⟩ := h.ex
  exact ⟨PS.mono h1 fun D σ H q => h2 _ _ _ (asgF_wish q)⟩
theorem ss_lc {i : Nat} {e : ME} (h : SndLc X W st i e) : SndS X W fr n st (.asg (.nm i) e) := by
  obtain ⟨te, h1, h2⟩ := h.ex
  exact ⟨PS.mono h1 fun D σ H q => h2 _ _ _ (tvF.of (asg_wish q))⟩
/-- an expression -/
theorem ss_exp {x : Expr} {e : ME} (h : Snd X W x e) (hs : swapsWith x none pos.line X.env = pure false) : SndS X W fr n (.Expr x pos) (.exp e) := by
  refine ⟨PS.mono (ps_expr h.pe hs) fun D σ H ⟨F, ρ, Hf, r, p⟩ => ?_⟩
  exact stepS (dnS := dE (ctx X)) (f := fun x => .ok (.nx, x.2)) r p fun d ρ' v H' Hf' r' s' dn p' => p' σ H' Hf' r' (Same.refl _)
/-- if -/
theorem ss_if {x : Expr} {a b : List Stmt} {e : ME} {ma mb : List MS} (h : Snd X W x e) (ha : SndB X W fr n a ma) (hb : SndB X W fr n b mb) : SndS X W fr n (.If x a b pos) (.ite e ma mb) := by
  refine ⟨PS.mono (ps_if h.pt ha.ps hb.ps) fun D σ H ⟨F, ρ, Hf, r, p⟩ => ?_⟩
  have p : PostS (ctx X) F W fr D Hf ((ev e ρ).bind fun x => match x.1 with
    | .bl true => evSs n ma x.2
    | .bl false => evSs n mb x.2
    | _ => .stuck) := p
  refine ⟨F, ρ, Hf, r, ?_⟩
  show Post (ctx X) F W σ _ _ Hf ((ev e ρ).bind fun x => match x.1 with
  | .bl b => .ok (b, x.2)
  | _ => .stuck)
  cases q : ev e ρ with
  | stuck => rw [q] at p; exact p
  | exc _ _ => rw [q] at p; exact fun H' Hf' C r' s' m' => p σ H' Hf' C r' s' m'
  | ok x =>
    obtain ⟨d, ρ'⟩ := x
    rw [q] at p
    cases d with
    | bl b =>
      intro b' H' Hf' r' s' e'
      have e' : b = b' := e'
      subst e'
      cases b with
      | true =>
        rw [if_pos rfl]
        exact ⟨F, ρ', Hf', r', PostS.mono s' p⟩
      | false =>
        rw [if_neg (by simp)]
        exact ⟨F, ρ', Hf', r', PostS.mono s' p⟩
    | _ => exact p.elim
/-- return -/
theorem ss_ret {x : Expr} {e : ME} (h : Snd X W x e) : SndS X W false n (.Return (some x) pos) (.ret e) := by
  refine ⟨PS.mono (ps_ret h.pe) fun D σ H ⟨F, ρ, Hf, r, p⟩ => ?_⟩
  exact stepS (dnS := dE (ctx X)) (f := fun x => .ok (.ret x.1, x.2)) r p fun d ρ' v H' Hf' r' s' dn p' => p' σ v H' Hf' r' (Same.refl _) (by rw [if_neg (by simp)]; exact dn)
theorem ss_retN : SndS X W false n (.Return none pos) .retN := by
  refine ⟨PS.mono ps_retN fun D σ H ⟨F, ρ, Hf, r, p⟩ => ?_⟩
  exact p σ .non H Hf r (Same.refl _) (by rw [if_neg (by simp)]; rfl)
theorem ss_retF {x : Expr} {e : ME} (h : SndF X W x e) (he : ∀ i, e ≠ .var i) : SndS X W true n (.Return (some x) pos) (.retF e) := by
  refine ⟨PS.mono (ps_ret h.pf) fun D σ H ⟨F, ρ, Hf, r, p⟩ => ?_⟩
  have p : PostS (ctx X) F W true D Hf (if isFresh e then (ev e ρ).bind fun x => .ok (.ret x.1, x.2) else .stuck) := by
    cases e <;> first | exact p | exact absurd rfl (he _)
  split at p
  · exact stepSF (f := fun x => .ok (.ret x.1, x.2)) r p fun d ρ' a H' Hf' r' s' w h0 hu hg p' => p' σ _ H' Hf' r' (Same.refl _) (by rw [if_pos rfl]; exact ⟨a, rfl, w, h0⟩)
  · exact p.elim
theorem ss_retV {x : Expr} {i : Nat} (h : Snd X W x (.var i)) : SndS X W true n (.Return (some x) pos) (.retF (.var i)) := by
  refine ⟨PS.mono (ps_ret h.pp) fun D σ H ⟨F, ρ, Hf, r, p⟩ => ?_⟩
  have p : PostS (ctx X) F W true D Hf (match ρ[i]? with
      | some (.ow d) => .ok (.ret d, ρ.set i .un)
      | _ => .stuck) := p
  cases q : ρ[i]? with
  | none => rw [q] at p; exact p.elim
  | some en =>
    rw [q] at p
    cases en with
    | ow d =>
      refine ⟨F, ρ, Hf, r, ?_⟩
      have e1 : pre (.var i) (ev (.var i)) ρ = .ok (none, ρ) := by
        show (match peek ρ i with | some _ => Out.ok (none, ρ) | none => Out.stuck) = _
        unfold peek
        rw [q]
      rw [e1]
      intro v H' Hf' r' s' hv
      have hv : σ[i]? = some (some v) := hv
      obtain ⟨a, w1, w2⟩ := r'.own i _ d q rfl
      rw [hv] at w1
      cases w1
      have h0 := r'.ow i d a q hv
      have hs : setE ρ i .un = some (ρ.set i .un) := by
        unfold setE
        rw [q]
      exact p (σ.set i none) _ H' Hf' (r'.setUn hs) s' (by rw [if_pos rfl]; exact ⟨a, rfl, w2, h0⟩)
    | _ => exact p.elim
/-- loops -/
theorem for_wish {c : Ct} {D : Ends} {σ : St} {H : Hp} {tg : Tg} {k : IK} {args : List ME} {body : List MS} (h : tvS c W fr (evS n (.for tg k args body)) D σ H) : tFor (iX c W k args) (gT c tg) (tvS c W fr (evSs n body)) D σ H := by
  obtain ⟨F, ρ, Hf, r, p⟩ := h
  have p : PostS c F W fr D Hf ((pres args ρ).bind fun x => match (finL args x.1 x.2).bind (iterD k) with
    | none => .stuck
    | some items => unlockO x.2 args (forLoop (evSs n body) tg items (lockE args x.2))) := p
  refine ⟨F, ρ, Hf, r, ?_⟩
  cases q : pres args ρ with
  | stuck => rw [q] at p; exact p.elim
  | exc n ρ' => rw [q] at p; exact fun H' Hf' C r' s' m' => p σ H' Hf' C r' s' m'
  | ok x =>
    obtain ⟨os, ρ1⟩ := x
    rw [q] at p
    have p : PostS c F W fr D Hf (match (finL args os ρ1).bind (iterD k) with
      | none => .stuck
      | some items => unlockO ρ1 args (forLoop (evSs n body) tg items (lockE args ρ1))) := p
    cases q2 : (finL args os ρ1).bind (iterD k) with
    | none => rw [q2] at p; exact p.elim
    | some items =>
      rw [q2] at p
      have p : PostS c F W fr D Hf (unlockO ρ1 args (forLoop (evSs n body) tg items (lockE args ρ1))) := p
      refine ⟨items, q2, fun H1 Hf1 J r1 s1 it => ?_⟩
      refine ⟨fun i mm σ' H' => mm = items.length - i ∧ i ≤ items.length ∧ ∃ ρi Hfi, R c (F.lock args ρ1 σ) ρi σ' H' Hfi ∧ Same Hf1 Hfi ∧ forLoop (evSs n body) tg (items.drop i) ρi = forLoop (evSs n body) tg items (lockE args ρ1),
        ⟨items.length, by simp, Nat.zero_le _, _, Hf1, r1.lock args, Same.refl _, rfl⟩, ?_⟩
      rintro i mm σ' Hi ⟨rfl, hi, ρi, Hfi, ri, si, ei⟩
      have iti := it _ ρi σ' Hi Hfi ri si (fun j a d h1 h2 => .inr ⟨d, rfl, h1, h2⟩) i
      by_cases hlt : i < items.length
      · refine .inr ⟨(iti.1 items[i] (List.getElem?_eq_getElem hlt)).1, ?_⟩
        have hdrop : items.drop i = items[i] :: items.drop (i + 1) := List.drop_eq_getElem_cons hlt
        rw [hdrop] at ei
        refine ⟨fun σ' H' => ∃ ρi Hfi, R c (F.lock args ρ1 σ) ρi σ' H' Hfi ∧ Same Hf1 Hfi ∧ forLoop (evSs n body) tg (items.drop (i + 1)) ρi = forLoop (evSs n body) tg items (lockE args ρ1),
          fun σ2 H2 n2 => ⟨items.length - (i + 1), by omega, rfl, hlt, n2⟩, fun x H2 y => ?_⟩
        obtain ⟨Hf2, r2, s2, d2⟩ := (iti.1 items[i] (List.getElem?_eq_getElem hlt)).2 x H2 y
        have ei : (match setT tg items[i] ρi with
          | none => Out.stuck
          | some ρ1 => (evSs n body ρ1).bind fun r => match r.1 with
            | .nx => forLoop (evSs n body) tg (items.drop (i + 1)) r.2
            | .ret v => .ok (.ret v, r.2)) = forLoop (evSs n body) tg items (lockE args ρ1) := ei
        cases c3 : setT tg items[i] ρi with
        | none =>
          rw [c3] at ei
          rw [← ei] at p
          exact p.elim
        | some ρ3 =>
          rw [c3] at ei
          have ei : ((evSs n body ρ3).bind fun r => match r.1 with
            | .nx => forLoop (evSs n body) tg (items.drop (i + 1)) r.2
            | .ret v => .ok (.ret v, r.2)) = forLoop (evSs n body) tg items (lockE args ρ1) := ei
          refine gT_ok r2 d2 c3 fun σ2 r3 _ => ⟨_, ρ3, Hf2, r3, ?_⟩
          cases c4 : evSs n body ρ3 with
          | stuck =>
            rw [c4] at ei
            rw [← ei] at p
            exact p.elim
          | exc nm ρ4 =>
            rw [c4] at ei
            rw [← ei] at p
            intro σ4 H4 Hf4 C r4 s4 m4
            exact p σ4 H4 Hf4 C (r1.unlock r4) (s1.trans (si.trans (s2.trans s4))) m4
          | ok z =>
            obtain ⟨f, ρ4⟩ := z
            rw [c4] at ei
            cases f with
            | nx => exact fun σ4 H4 Hf4 r4 s4 => ⟨ρ4, Hf4, r4, si.trans (s2.trans s4), ei⟩
            | ret d =>
              have ei : (Out.ok (.ret d, ρ4) : ResS) = forLoop (evSs n body) tg items (lockE args ρ1) := ei
              rw [← ei] at p
              intro σ4 v H4 Hf4 r4 s4 d4
              exact p σ4 v H4 Hf4 (r1.unlock r4) (s1.trans (si.trans (s2.trans s4))) d4
      · have hil : i = items.length := by omega
        subst hil
        refine .inl ⟨iti.2 (Nat.le_refl _), ?_⟩
        rw [List.drop_length] at ei
        have ei : (Out.ok (.nx, ρi) : ResS) = forLoop (evSs n body) tg items (lockE args ρ1) := ei
        rw [← ei] at p
        exact p σ' Hi Hfi (r1.unlock ri) (s1.trans si)
theorem ss_for {tgx iter : Expr} {tg : Tg} {k : IK} {args : List ME} {b : List Stmt} {mb : List MS} (hp : PassesOwn (model X.prog X.w) X.A X.env X.xe) (hc : X.calm = true) (hi : PI X tgx iter (iX (ctx X) W k args)) (hg : PG X tgx (gT (ctx X) tg)) (hb : SndB X W fr n b mb)
    (hs : ∀ x, foldedSetIterable iter X.env x = pure x) : SndS X W fr n (.For tgx iter b [] pos) (.for tg k args mb) :=
  ⟨PS.mono (ps_for hp hc hi hg hb.ps hs) fun D σ H q => for_wish q⟩
theorem ss_while {x : Expr} {e : ME} {b : List Stmt} {mb : List MS} (hp : PassesOwn (model X.prog X.w) X.A X.env X.xe) (h : Snd X W x e) (hb : SndB X W fr n b mb) : SndS X W fr n (.While x b [] pos) (.whl e mb) := by
  refine ⟨PS.mono (ps_while hp h.pt hb.ps) fun D σ H ⟨F, ρ, Hf, r, p⟩ => ?_⟩
  have p : PostS (ctx X) F W fr D Hf (whileLoop (ev e) (evSs n mb) n ρ) := p
  refine ⟨fun mm σ H => ∃ ρi Hfi, R (ctx X) F ρi σ H Hfi ∧ PostS (ctx X) F W fr D Hfi (whileLoop (ev e) (evSs n mb) mm ρi), ⟨n, ρ, Hf, r, p⟩, ?_⟩
  rintro mm σ1 H1 ⟨ρi, Hfi, ri, pi⟩
  cases mm with
  | zero => exact pi.elim
  | succ mm =>
    have pi : PostS (ctx X) F W fr D Hfi ((ev e ρi).bind fun x => match x.1 with
      | .bl true => (evSs n mb x.2).bind fun r => match r.1 with
        | .nx => whileLoop (ev e) (evSs n mb) mm r.2
        | .ret v => .ok (.ret v, r.2)
      | .bl false => .ok (.nx, x.2)
      | _ => .stuck) := pi
    refine ⟨F, ρi, Hfi, ri, ?_⟩
    show Post (ctx X) F W σ1 _ _ Hfi ((ev e ρi).bind fun x => match x.1 with
    | .bl b => .ok (b, x.2)
    | _ => .stuck)
    cases q : ev e ρi with
    | stuck => rw [q] at pi; exact pi
    | exc _ _ => rw [q] at pi; exact fun H' Hf' C r' s' m' => pi σ1 H' Hf' C r' s' m'
    | ok x =>
      obtain ⟨d, ρ'⟩ := x
      rw [q] at pi
      cases d with
      | bl b =>
        intro b' H' Hf' r' s' e'
        have e' : b = b' := e'
        subst e'
        cases b with
        | true =>
          rw [if_pos rfl]
          have pi : PostS (ctx X) F W fr D Hfi ((evSs n mb ρ').bind fun r => match r.1 with
            | .nx => whileLoop (ev e) (evSs n mb) mm r.2
            | .ret v => .ok (.ret v, r.2)) := pi
          refine ⟨_, fun σ2 H2 n2 => ⟨mm, Nat.lt_succ_self _, n2⟩, F, ρ', Hf', r', ?_⟩
          cases q2 : evSs n mb ρ' with
          | stuck => rw [q2] at pi; exact pi
          | exc _ _ => rw [q2] at pi; exact fun σ2 H2 Hf2 C r2 s2 m2 => pi σ2 H2 Hf2 C r2 (s'.trans s2) m2
          | ok z =>
            obtain ⟨f, ρ4⟩ := z
            rw [q2] at pi
            cases f with
            | nx => exact fun σ4 H4 Hf4 r4 s4 => ⟨ρ4, Hf4, r4, PostS.mono (s'.trans s4) pi⟩
            | ret d => exact fun σ4 v H4 Hf4 r4 s4 d4 => pi σ4 v H4 Hf4 r4 (s'.trans s4) d4
        | false =>
          rw [if_neg (by simp)]
          exact pi σ1 H' Hf' r' s'
      | _ => exact pi.elim
end
end NV

/-! NV.N: defs and their calls. -/
namespace NV
open PySem PySem.Spec PyProof.Rows L2

/-! ### what a def promises -/
def ArgsOk (c : Ct) (Hf H : Hp) : List PK → List D → List V → Prop
  | [], ds, vs => ds = [] ∧ vs = []
  | k :: ks, ds, vs => ∃ d ds' v vs', ds = d :: ds' ∧ vs = v :: vs' ∧ (match k with
    | .im => Den c Hf d v
    | _ => ∃ a, v = .ref a ∧ Own c Hf H d a) ∧ ArgsOk c Hf H ks ds' vs'
def OutsOk (c : Ct) (Hf H : Hp) : List PK → List D → List V → Prop
  | [], os, vs => os = [] ∧ vs = []
  | .io :: ks, os, vs => ∃ d os' v vs', os = d :: os' ∧ vs = v :: vs' ∧ (∃ a, v = .ref a ∧ Own c Hf H d a) ∧ OutsOk c Hf H ks os' vs'
  | _ :: ks, os, vs => ∃ v vs', vs = v :: vs' ∧ OutsOk c Hf H ks os vs'
def MuOf (ks : List PK) (vs : List V) (a : Addr) : Prop := ∃ i : Nat, ks[i]? = some PK.io ∧ vs[i]? = some (V.ref a)
def DistOk (ks : List PK) (vs : List V) : Prop := ∀ (i j : Nat) (a : Addr) (k k' : PK), ks[i]? = some k → k ≠ PK.im → ks[j]? = some k' → k' ≠ PK.im → vs[i]? = some (V.ref a) → vs[j]? = some (V.ref a) → i = j
structure Aft (Mu : Addr → Prop) (H Hf H' Hf' : Hp) : Prop where
  same : Same Hf Hf'
  sub : Same Hf' H'
  live : ∀ a o, H a = some o → ∃ o', H' a = some o'
  keep : ∀ a o, H a = some o → ¬ Mu a → H' a = some o
  out : ∀ a o, H a = some o → Hf a = none → Hf' a = none
def spF (c : Ct) (f : FnE) : Sp := fun vs H Q E => ∃ Hf ds, Same Hf H ∧ ArgsOk c Hf H f.ks ds vs ∧ DistOk f.ks vs ∧ match f.F ds with
  | .stuck => False
  | .ok (d, outs) => ∀ v H' Hf', Aft (MuOf f.ks vs) H Hf H' Hf' → OutsOk c Hf' H' f.ks outs vs → (if f.fresh then ∃ a, v = .ref a ∧ Own c Hf' H' d a ∧ H a = none else Den c Hf' d v) → Q v H'
  | .exc n _ => ∀ H' Hf' C, Aft (MuOf f.ks vs) H Hf H' Hf' → c.mg (Str.ofString n) = some (.ref C) → E (.ref C) none H'

theorem ArgsOk.len {c : Ct} {Hf H : Hp} : ∀ {ks : List PK} {ds : List D} {vs : List V}, ArgsOk c Hf H ks ds vs → ds.length = ks.length ∧ vs.length = ks.length
  | [], ds, vs, h => by
    obtain ⟨rfl, rfl⟩ := h
    exact ⟨rfl, rfl⟩
  | k :: ks, ds, vs, h => by
    obtain ⟨d, ds', v, vs', rfl, rfl, _, h⟩ := h
    have := ArgsOk.len h
    simp [this.1, this.2]
theorem ArgsOk.get {c : Ct} {Hf H : Hp} : ∀ {ks : List PK} {ds : List D} {vs : List V} {i : Nat} {k : PK}, ArgsOk c Hf H ks ds vs → ks[i]? = some k → ∃ d v, ds[i]? = some d ∧ vs[i]? = some v ∧ match k with
    | .im => Den c Hf d v
    | _ => ∃ a, v = .ref a ∧ Own c Hf H d a
  | [], ds, vs, i, k, h, e => by simp at e
  | k0 :: ks, ds, vs, 0, k, h, e => by
    obtain ⟨d, ds', v, vs', rfl, rfl, h1, h⟩ := h
    cases e
    exact ⟨d, v, rfl, rfl, h1⟩
  | k0 :: ks, ds, vs, i + 1, k, h, e => by
    obtain ⟨d, ds', v, vs', rfl, rfl, h1, h⟩ := h
    exact ArgsOk.get (ks := ks) (i := i) h (by simpa using e)

/-! ### a def's body -/
def entOf : PK → D → Ent
  | .im, d => .im d
  | .io, d => .io d
  | .br, d => .br d
def rho0 (ks : List PK) (ds : List D) (nN : Nat) : Rho := List.zipWith entOf ks ds ++ List.replicate (nN - ks.length) .un
def ioOuts : List PK → Rho → List D
  | .io :: ks, .io d :: ρ => d :: ioOuts ks ρ
  | _ :: ks, _ :: ρ => ioOuts ks ρ
  | _, _ => []
def runF (ks : List PK) (nN : Nat) (fr : Bool) (n : Nat) (ms : List MS) (ds : List D) : Out Unit (D × List D) := match evSs n ms (rho0 ks ds nN) with
  | .stuck => .stuck
  | .exc c _ => .exc c ()
  | .ok (.nx, ρ) => if fr then .stuck else .ok (.non, ioOuts ks ρ)
  | .ok (.ret d, ρ) => .ok (d, ioOuts ks ρ)
theorem rho0_len {ks : List PK} {ds : List D} {nN : Nat} (h : ds.length = ks.length) (hn : ks.length ≤ nN) : (rho0 ks ds nN).length = nN := by
  unfold rho0
  rw [List.length_append, List.length_zipWith, List.length_replicate]
  omega
theorem rho0_at {ks : List PK} {ds : List D} {nN i : Nat} {e : Ent} (hl : ds.length = ks.length) (h : (rho0 ks ds nN)[i]? = some e) : e = .un ∨ ∃ k d, ks[i]? = some k ∧ ds[i]? = some d ∧ e = entOf k d := by
  unfold rho0 at h
  by_cases hi : i < (List.zipWith entOf ks ds).length
  · rw [List.getElem?_append_left hi, List.getElem?_zipWith] at h
    cases q : ks[i]? with
    | none => rw [q] at h; simp at h
    | some k =>
      cases q2 : ds[i]? with
      | none => rw [q, q2] at h; simp at h
      | some d =>
        rw [q, q2] at h
        simp at h
        exact .inr ⟨k, d, rfl, rfl, h.symm⟩
  · rw [List.getElem?_append_right (by omega), List.getElem?_replicate] at h
    split at h
    · cases h; exact .inl rfl
    · cases h
theorem rho0_get {ks : List PK} {ds : List D} {nN i : Nat} {k : PK} {d : D} (h1 : ks[i]? = some k) (h2 : ds[i]? = some d) : (rho0 ks ds nN)[i]? = some (entOf k d) := by
  unfold rho0
  have h1' := lt_of_get h1
  have h2' := lt_of_get h2
  rw [List.getElem?_append_left (by rw [List.length_zipWith]; omega), List.getElem?_zipWith, h1, h2]
theorem start_get {N : List Str} {vs : List V} {i : Nat} {v : V} (h : vs[i]? = some v) : (L2.start N vs)[i]? = some (some v) := by
  unfold L2.start
  rw [List.getElem?_append_left (by rw [List.length_map]; exact lt_of_get h), List.getElem?_map, h]
  rfl
theorem start_at {N : List Str} {vs : List V} {i : Nat} {v : V} (h : (L2.start N vs)[i]? = some (some v)) : vs[i]? = some v := by
  unfold L2.start at h
  by_cases hi : i < vs.length
  · rw [List.getElem?_append_left (by simpa using hi), List.getElem?_map] at h
    cases e : vs[i]? with
    | none => rw [e] at h; cases h
    | some a => rw [e] at h; cases h; rfl
  · rw [List.getElem?_append_right (by simpa using hi), List.getElem?_replicate] at h
    split at h <;> cases h
def frOf (ks : List PK) (ds : List D) (vs : List V) (H Hf : Hp) : Fr where
  H0 := H
  F0 := Hf
  Mu := MuOf ks vs
  L := fun i a o => vs[i]? = some (.ref a) ∧ ((ks[i]? = some .io ∧ o = none) ∨ (ks[i]? = some .br ∧ ∃ d, ds[i]? = some d ∧ o = some d))
  G := fun _ => none
theorem r_start {c : Ct} {N : List Str} {ks : List PK} {ds : List D} {vs : List V} {H Hf : Hp} (s : Same Hf H) (ha : ArgsOk c Hf H ks ds vs) (hd : DistOk ks vs) (hn : ks.length ≤ N.length) : R c (frOf ks ds vs H Hf) (rho0 ks ds N.length) (L2.start N vs) H Hf := by
  obtain ⟨l1, l2⟩ := ha.len
  have oa : ∀ i a, OwnAt (rho0 ks ds N.length) (L2.start N vs) i a → ∃ k, ks[i]? = some k ∧ k ≠ .im ∧ vs[i]? = some (.ref a) := fun i a ⟨e, d, h1, h2, h3⟩ => by
    rcases rho0_at l1 h1 with rfl | ⟨k, d', q1, q2, rfl⟩
    · cases h2
    · refine ⟨k, q1, fun z => ?_, start_at h3⟩
      subst z
      cases h2
  refine ⟨?_, s, Same.refl _, fun a o h => ⟨o, h⟩, fun a o h _ => h, fun a o h h2 => h2, fun i d h => ?_, fun i e d h1 h2 => ?_, fun i j a h1 h2 => ?_, fun i d a h1 h2 => ?_, fun i d a h1 h2 => ?_, fun i a o h => ?_, fun i d h => ?_, fun b u q => by cases q⟩
  · rw [rho0_len l1 hn]
    unfold L2.start
    rw [List.length_append, List.length_map, List.length_replicate]
    omega
  · rcases rho0_at l1 h with z | ⟨k, d', q1, q2, z⟩
    · cases z
    · obtain ⟨d2, v, w1, w2, w3⟩ := ha.get q1
      rw [q2] at w1
      cases w1
      cases k with
      | im => cases z; exact ⟨v, start_get w2, w3⟩
      | io => cases z
      | br => cases z
  · rcases rho0_at l1 h1 with z | ⟨k, d', q1, q2, z⟩
    · subst z; cases h2
    · obtain ⟨d2, v, w1, w2, w3⟩ := ha.get q1
      rw [q2] at w1
      cases w1
      subst z
      cases k with
      | im => cases h2
      | io =>
        cases h2
        obtain ⟨a, rfl, w4⟩ := w3
        exact ⟨a, start_get w2, w4⟩
      | br =>
        cases h2
        obtain ⟨a, rfl, w4⟩ := w3
        exact ⟨a, start_get w2, w4⟩
  · obtain ⟨k, q1, q2, q3⟩ := oa i a h1
    obtain ⟨k', q4, q5, q6⟩ := oa j a h2
    exact hd i j a k k' q1 q2 q4 q5 q3 q6
  · rcases rho0_at l1 h1 with z | ⟨k, d', q1, q2, z⟩
    · cases z
    · cases k <;> cases z
  · rcases rho0_at l1 h1 with z | ⟨k, d', q1, q2, z⟩
    · cases z
    · cases k with
      | im => cases z
      | io => exact ⟨i, q1, start_at h2⟩
      | br => cases z
  · obtain ⟨h1, h⟩ := h
    refine ⟨start_get h1, ?_⟩
    rcases h with ⟨h, rfl⟩ | ⟨h, d, h2, rfl⟩
    · obtain ⟨d, v, w1, w2, _⟩ := ha.get h
      exact ⟨_, rho0_get h w1, d, rfl⟩
    · refine ⟨_, rho0_get h h2, ?_⟩
      obtain ⟨d9, v9, w1, w2, a9, _, _, w4⟩ := ha.get h
      rw [h2] at w1
      cases w1
      show Ent.br d = pinE d
      cases d with
      | adr n => exact w4.elim
      | _ => rfl
  · rcases rho0_at l1 h with z | ⟨k, d', q1, q2, z⟩
    · cases z
    · cases k with
      | im => cases z
      | io => cases z
      | br =>
        cases z
        obtain ⟨d2, v, w1, w2, a, rfl, _⟩ := ha.get q1
        exact ⟨a, w2, .inr ⟨q1, _, q2, rfl⟩⟩
theorem outs_none {c : Ct} {Hf H : Hp} : ∀ {ks : List PK} {vs : List V}, vs.length = ks.length → (∀ i : Nat, ks[i]? ≠ some PK.io) → OutsOk c Hf H ks [] vs
  | [], [], _, _ => ⟨rfl, rfl⟩
  | [], _ :: _, h, _ => by simp at h
  | _ :: _, [], h, _ => by simp at h
  | k :: ks, v :: vs, hl, h => by
    have ih := outs_none (c := c) (Hf := Hf) (H := H) (ks := ks) (vs := vs) (by simpa using hl) fun i => by simpa using h (i + 1)
    cases k with
    | im => exact ⟨v, vs, rfl, ih⟩
    | br => exact ⟨v, vs, rfl, ih⟩
    | io => exact absurd rfl (h 0)
theorem outs_of {c : Ct} {Hf H : Hp} : ∀ {ks : List PK} {vs : List V} {ρ : Rho}, vs.length = ks.length → (∀ i : Nat, ks[i]? = some PK.io → ∃ a d, vs[i]? = some (V.ref a) ∧ ρ[i]? = some (Ent.io d) ∧ Own c Hf H d a) → OutsOk c Hf H ks (ioOuts ks ρ) vs
  | [], [], ρ, _, _ => ⟨by cases ρ <;> rfl, rfl⟩
  | [], _ :: _, _, h, _ => by simp at h
  | _ :: _, [], _, h, _ => by simp at h
  | k :: ks, v :: vs, [], hl, h => by
    have e : ioOuts (k :: ks) [] = [] := by cases k <;> rfl
    rw [e]
    refine outs_none hl fun i hi => ?_
    obtain ⟨a, d, _, h2, _⟩ := h i hi
    simp at h2
  | k :: ks, v :: vs, e :: ρ, hl, h => by
    have ih := outs_of (c := c) (Hf := Hf) (H := H) (ks := ks) (vs := vs) (ρ := ρ) (by simpa using hl) (fun i hi => by
      have := h (i + 1) (by simpa using hi)
      simpa using this)
    cases k with
    | im => exact ⟨v, vs, rfl, by cases e <;> exact ih⟩
    | br => exact ⟨v, vs, rfl, by cases e <;> exact ih⟩
    | io =>
      obtain ⟨a, d, h1, h2, h3⟩ := h 0 rfl
      have h1 : v = .ref a := by simpa using h1
      have h2 : e = .io d := by simpa using h2
      subst h1 h2
      exact ⟨d, _, _, vs, rfl, rfl, ⟨a, rfl, h3⟩, ih⟩
section
variable {P : Program} {w : World} {K : PySem.W.Frag} {mg : Str → Option Value} {base : Heap}
/-- the context of a def's body -/
abbrev cxF (P : Program) (w : World) (K : PySem.W.Frag) (mg : Str → Option Value) (base : Heap) (N : List Str) (qual : Str) (sc : Scope) (f : Addr) (cd : Value) (A : Around) (outer : List Env) (s : Shared) (H : Hp) (E : XK) : Cx := cxOf (L2N.CX P w) P w K mg base N qual sc f cd A outer s H E
theorem takesF {N : List Str} {qual : Str} {sc : Scope} {f : Addr} {cd : Value} {A : Around} {outer : List Env} {s : Shared} {H : Hp} {E : XK} : L2N.Takes (cxF P w K mg base N qual sc f cd A outer s H E) (fun cls d _ H => E cls d H) :=
  L2N.takes_of (E₁ := fun e' s'' => L2N.CX P w outer H s E e' s'') rfl rfl rfl rfl
/-- the end of a body -/
theorem body_wish {N ps : List Str} {n : Nat} {fe : FnE} {ms : List MS} {E : XK} {vs : List V} {H : Hp} {Q : VK} (hpl : ps.length ≤ N.length) (hps : fe.ks.length = ps.length)
    (hF : ∀ ds, ds.length = ps.length → fe.F ds = .stuck ∨ runF fe.ks N.length fe.fresh n ms ds = fe.F ds) (h : spF ⟨P, w, K, mg⟩ fe vs H Q E) :
    tvS ⟨P, w, K, mg⟩ (fun cls d _ H => E cls d H) fe.fresh (evSs n ms) { nx := fun _ H' => Q .non H', rt := Q } (L2.start N vs) H := by
    obtain ⟨Hf, ds, sf, ha, hd, q⟩ := h
    have r0 := r_start (N := N) sf ha hd (by omega)
    obtain ⟨l1, l2⟩ := ha.len
    refine ⟨_, _, Hf, r0, ?_⟩
    have hf := hF ds (by omega)
    rcases hf with hf | hf
    · rw [hf] at q; exact q.elim
    · rw [← hf] at q
      have aft : ∀ {ρ' : Rho} {σ' : St} {H' Hf' : Hp}, R ⟨P, w, K, mg⟩ (frOf fe.ks ds vs H Hf) ρ' σ' H' Hf' → Aft (MuOf fe.ks vs) H Hf H' Hf' := fun r => ⟨r.subf, r.sub, r.live, r.keep, r.out⟩
      have outs : ∀ {ρ' : Rho} {σ' : St} {H' Hf' : Hp}, R ⟨P, w, K, mg⟩ (frOf fe.ks ds vs H Hf) ρ' σ' H' Hf' → OutsOk ⟨P, w, K, mg⟩ Hf' H' fe.ks (ioOuts fe.ks ρ') vs := fun {ρ' σ' H' Hf'} r => by
        refine outs_of l2 fun i hi => ?_
        obtain ⟨d, v, w1, w2, a, rfl, _⟩ := ha.get hi
        obtain ⟨y1, e, y2, y3⟩ := r.pin i a none ⟨w2, .inl ⟨hi, rfl⟩⟩
        obtain ⟨d', rfl⟩ := y3
        obtain ⟨b, y4, y5⟩ := r.own i _ d' y2 rfl
        rw [y1] at y4
        cases y4
        exact ⟨a, d', w2, y2, y5⟩
      unfold runF at q
      cases z : evSs n ms (rho0 fe.ks ds N.length) with
      | stuck => rw [z] at q; exact q.elim
      | exc nm ρ' =>
        rw [z] at q
        exact fun σ' H' Hf' C r' s' m' => q H' Hf' C (aft r') m'
      | ok y =>
        obtain ⟨fl, ρ'⟩ := y
        rw [z] at q
        cases fl with
        | nx =>
          intro σ' H' Hf' r' s'
          have q : match (if fe.fresh then Out.stuck else Out.ok (D.non, ioOuts fe.ks ρ') : Out Unit (D × List D)) with
            | .stuck => False
            | .ok (d, outs) => ∀ v H' Hf', Aft (MuOf fe.ks vs) H Hf H' Hf' → OutsOk ⟨P, w, K, mg⟩ Hf' H' fe.ks outs vs → (if fe.fresh then ∃ a, v = .ref a ∧ Own ⟨P, w, K, mg⟩ Hf' H' d a ∧ H a = none else Den ⟨P, w, K, mg⟩ Hf' d v) → Q v H'
            | .exc n _ => ∀ H' Hf' C, Aft (MuOf fe.ks vs) H Hf H' Hf' → mg (Str.ofString n) = some (.ref C) → E (.ref C) none H' := q
          cases hfr : fe.fresh with
          | true => rw [hfr, if_pos rfl] at q; exact q.elim
          | false =>
            rw [hfr, if_neg (by simp)] at q
            exact q .non H' Hf' (aft r') (outs r') (by rw [if_neg (by simp)]; rfl)
        | ret d =>
          intro σ' v H' Hf' r' s' hv
          exact q v H' Hf' (aft r') (outs r') hv
/-- THE RULE: a def by its body -/
theorem fn_ok {x qual : Str} {st : Stmt} {f : Addr} {fd : FuncData} {N ps : List Str} {k n : Nat} {fe : FnE} {ms : List MS} (F : L2.Fun K x qual st f fd) (S : FnScope N ps (defScope st)) (hps : fe.ks.length = ps.length)
    (hF : ∀ ds, ds.length = ps.length → fe.F ds = .stuck ∨ runF fe.ks N.length fe.fresh n ms ds = fe.F ds)
    (hb : ∀ (cdv : Value) (A : Around) (outer : List Env) (s : Shared) (H : Hp) (E : XK), Room k (A.deeper (envOfC qual (defScope st) s.heap.objs.size f cdv)) →
      SndB (cxF P w K mg base N qual (defScope st) f cdv A outer s H E) (fun cls d _ H => E cls d H) fe.fresh n (defBody st) ms) : FnOk P w K mg base (L2N.CX P w) (k + 1) f fd ps (spF ⟨P, w, K, mg⟩ fe) := by
  obtain ⟨oc, od, kV, doc, pm, an, cdv, ct, osl, rfl, lk, hcd⟩ := F.ex
  refine fn_of lk hcd S (fun vs H Q E h => ?_) fun A outer s H vs Q E hr h => ⟨_, (hb cdv A outer s H E hr).ps, ?_⟩
  · obtain ⟨Hf, ds, _, ha, _⟩ := h
    rw [ha.len.2, hps]
  · have hpl : ps.length ≤ N.length := by have := congrArg List.length S.pre; rw [List.length_take] at this; omega
    exact body_wish hpl hps hF h
end
end NV

/-! NV.O: calls of defs. -/
namespace NV
open PySem PySem.Spec PyProof.Rows L2

section
variable {c : Ct} {F : Fr} {ρ ρ' : Rho} {σ : St} {H Hf H' Hf' : Hp} {Mu : Addr → Prop}
theorem R.call (r : R c F ρ σ H Hf) (aft : Aft Mu H Hf H' Hf') (hl : ρ'.length = ρ.length)
    (h : ∀ j : Nat, (ρ'[j]? = ρ[j]? ∧ ∀ a, OwnAt ρ σ j a → ¬ Mu a) ∨ ∃ d d' a, σ[j]? = some (some (V.ref a)) ∧ Own c Hf' H' d' a ∧ ((ρ[j]? = some (Ent.ow d) ∧ ρ'[j]? = some (Ent.ow d')) ∨ (ρ[j]? = some (Ent.io d) ∧ ρ'[j]? = some (Ent.io d'))))
    (hM : ∀ a, Mu a → ∃ (j : Nat) (d : D), (ρ[j]? = some (Ent.ow d) ∨ ρ[j]? = some (Ent.io d)) ∧ σ[j]? = some (some (V.ref a))) : R c F ρ' σ H' Hf' := by
  have oa : ∀ j a, OwnAt ρ' σ j a → OwnAt ρ σ j a := fun j a ⟨e, d, h1, h2, h3⟩ => by
    rcases h j with ⟨q, _⟩ | ⟨d0, d1, b, q1, q2, q3⟩
    · rw [q] at h1; exact ⟨e, d, h1, h2, h3⟩
    · rcases q3 with ⟨q3, _⟩ | ⟨q3, _⟩
      · exact ⟨_, _, q3, rfl, h3⟩
      · exact ⟨_, _, q3, rfl, h3⟩
  have mo : ∀ a, Mu a → ∃ j, OwnAt ρ σ j a := fun a hm => by
    obtain ⟨j, d, q1, q2⟩ := hM a hm
    rcases q1 with q1 | q1
    · exact ⟨j, _, _, q1, rfl, q2⟩
    · exact ⟨j, _, _, q1, rfl, q2⟩
  refine ⟨hl.trans r.len, aft.sub, r.subf.trans aft.same, fun a o e => ?_, fun a o e m => ?_, fun a o e e2 => ?_, fun i d e => ?_, fun i e d h1 h2 => ?_, fun i j a h1 h2 => r.dist i j a (oa _ _ h1) (oa _ _ h2), fun i d a h1 h2 => ?_, fun i d a h1 h2 => ?_, fun i a o e => ?_, fun i d e => ?_, fun b u q => ?_⟩
  · obtain ⟨o', q⟩ := r.live a o e
    exact aft.live _ _ q
  · refine aft.keep _ _ (r.keep _ _ e m) fun hm => ?_
    obtain ⟨j, d, q1, q2⟩ := hM a hm
    rcases q1 with q1 | q1
    · have := r.ow j d a q1 q2
      rw [this] at e
      cases e
    · exact m (r.io j d a q1 q2)
  · obtain ⟨o', q⟩ := r.live a o e
    exact aft.out _ _ q (r.out _ _ e e2)
  · rcases h i with ⟨q, _⟩ | ⟨d0, d1, b, q1, q2, q3⟩
    · rw [q] at e
      obtain ⟨v, w1, w2⟩ := r.im i d e
      exact ⟨v, w1, Den.mono aft.same _ _ w2⟩
    · rcases q3 with ⟨_, q3⟩ | ⟨_, q3⟩ <;> (rw [q3] at e; cases e)
  · rcases h i with ⟨q, qm⟩ | ⟨d0, d1, b, q1, q2, q3⟩
    · rw [q] at h1
      obtain ⟨a, w1, w2⟩ := r.own i e d h1 h2
      obtain ⟨o, w3⟩ := w2.there
      exact ⟨a, w1, w2.keep aft.same (aft.out _ _ w3 w2.1) fun u hu => aft.keep _ _ hu (qm a ⟨e, d, h1, h2, w1⟩)⟩
    · rcases q3 with ⟨_, q3⟩ | ⟨_, q3⟩
      · rw [q3] at h1; cases h1; cases h2; exact ⟨b, q1, q2⟩
      · rw [q3] at h1; cases h1; cases h2; exact ⟨b, q1, q2⟩
  · rcases h i with ⟨q, qm⟩ | ⟨d0, d1, b, q1, q2, q3⟩
    · rw [q] at h1; exact r.ow i d a h1 h2
    · rcases q3 with ⟨q3, q4⟩ | ⟨q3, q4⟩
      · exact r.ow i d0 a q3 h2
      · rw [q4] at h1; cases h1
  · rcases h i with ⟨q, qm⟩ | ⟨d0, d1, b, q1, q2, q3⟩
    · rw [q] at h1; exact r.io i d a h1 h2
    · rcases q3 with ⟨q3, q4⟩ | ⟨q3, q4⟩
      · rw [q4] at h1; cases h1
      · exact r.io i d0 a q3 h2
  · obtain ⟨w1, en, w2, w3⟩ := r.pin i a o e
    refine ⟨w1, ?_⟩
    rcases h i with ⟨q, qm⟩ | ⟨d0, d1, b, q1, q2, q3⟩
    · exact ⟨en, by rw [q]; exact w2, w3⟩
    · cases o with
      | none =>
        rcases q3 with ⟨q3, q4⟩ | ⟨q3, q4⟩
        · obtain ⟨d', rfl⟩ := w3
          rw [w2] at q3; cases q3
        · exact ⟨_, q4, _, rfl⟩
      | some d =>
        have w3 : en = pinE d := w3
        rcases pinE_or d with z | z <;> rw [z] at w3 <;> subst w3 <;> rcases q3 with ⟨q3, q4⟩ | ⟨q3, q4⟩ <;> (rw [w2] at q3; cases q3)
  · rcases h i with ⟨q, qm⟩ | ⟨d0, d1, b, q1, q2, q3⟩
    · rw [q] at e; exact r.brL i d e
    · rcases q3 with ⟨_, q3⟩ | ⟨_, q3⟩ <;> (rw [q3] at e; cases e)
  · obtain ⟨q1, q2, q3⟩ := r.grd b u q
    refine ⟨aft.keep _ _ q1 fun hm => ?_, aft.out _ _ q1 q2, fun i w => q3 i (oa _ _ w)⟩
    obtain ⟨j, w⟩ := mo b hm
    exact q3 j w
end

/-! ### the arguments -/
def dA (c : Ct) : List PK → List ME → St → List (Option D) → List V → Hp → Prop
  | [], [], _, os, vs, _ => os = [] ∧ vs = []
  | k :: ks, m :: ms, σ, os, vs, Hf => ∃ o os' v vs', os = o :: os' ∧ vs = v :: vs' ∧ (match k with
    | .im => ∃ d, o = some d ∧ Den c Hf d v
    | _ => ∃ i, m = .var i ∧ σ[i]? = some (some v)) ∧ dA c ks ms σ os' vs' Hf
  | _, _, _, _, _, _ => False
structure SndA (X : Cx) (W : WX) (ks : List PK) (es : List Expr) (ms : List ME) : Prop where
  pa : PA X es (tvG (ctx X) W (dA (ctx X) ks ms) (evArgs ks ms))
theorem dA.mono {c : Ct} {σ : St} {Hf Hf' : Hp} (s : Same Hf Hf') : ∀ {ks : List PK} {ms : List ME} {os : List (Option D)} {vs : List V}, dA c ks ms σ os vs Hf → dA c ks ms σ os vs Hf'
  | [], [], os, vs, h => h
  | k :: ks, m :: ms, os, vs, h => by
    obtain ⟨o, os', v, vs', h1, h2, h3, h4⟩ := h
    refine ⟨o, os', v, vs', h1, h2, ?_, dA.mono s h4⟩
    cases k with
    | im =>
      obtain ⟨d, e, dn⟩ := h3
      exact ⟨d, e, Den.mono s _ _ dn⟩
    | io => exact h3
    | br => exact h3
  | [], _ :: _, _, _, h => h.elim
  | _ :: _, [], _, _, h => h.elim
section
variable {X : Cx} {W : WX} {pos : Pos}
theorem sa_nil : SndA X W [] [] [] := ⟨PA.mono pa_nil fun σ H Q ⟨F, ρ, Hf, r, p⟩ => p [] H Hf r (Same.refl _) ⟨rfl, rfl⟩⟩
/-- one argument -/
def dA1 (c : Ct) (k : PK) (m : ME) : St → Option D → V → Hp → Prop := fun σ o v Hf => match k with
    | .im => ∃ d, o = some d ∧ Den c Hf d v
    | _ => ∃ i, m = .var i ∧ σ[i]? = some (some v)
structure SndA1 (X : Cx) (W : WX) (k : PK) (e : Expr) (m : ME) : Prop where
  pe : PE X e (tvG (ctx X) W (dA1 (ctx X) k m) (evArg k m (ev m)))
theorem sa_im {e : Expr} {m : ME} (h : Snd X W e m) : SndA1 X W .im e m := by
  refine ⟨PE.mono h.pe fun σ H Q ⟨F, ρ, Hf, r, p⟩ => ?_⟩
  have p : Post (ctx X) F W σ (dA1 (ctx X) .im m σ) Q Hf ((ev m ρ).bind fun r => .ok (some r.1, r.2)) := p
  exact step r p fun d ρ' v H' Hf' r' s' dn p' => p' v H' Hf' r' (Same.refl _) ⟨d, rfl, dn⟩
theorem sa_ref {k : PK} {e : Expr} {i : Nat} (hk : k ≠ .im) (h : Snd X W e (.var i)) : SndA1 X W k e (.var i) := by
  refine ⟨PE.mono h.pp fun σ H Q ⟨F, ρ, Hf, r, p⟩ => ?_⟩
  have e1 : evArg k (.var i) (ev (.var i)) ρ = pre (.var i) (ev (.var i)) ρ := by
    cases k with
    | im => exact absurd rfl hk
    | _ => rfl
  rw [e1] at p
  refine ⟨F, ρ, Hf, r, ?_⟩
  cases q : pre (.var i) (ev (.var i)) ρ with
  | stuck => rw [q] at p; exact p
  | exc _ _ => rw [q] at p; exact p
  | ok x =>
    obtain ⟨o, ρ'⟩ := x
    rw [q] at p
    refine fun v H' Hf' r' s' dn => p v H' Hf' r' s' ?_
    cases k with
    | im => exact absurd rfl hk
    | _ => exact ⟨i, rfl, dn⟩
theorem sa_cons {k : PK} {ks : List PK} {e : Expr} {es : List Expr} {m : ME} {ms : List ME} (h : SndA1 X W k e m) (t : SndA X W ks es ms)
    (hs : starEach (e :: es) X.env = (false, eval e X.env) :: starEach es X.env) : SndA X W (k :: ks) (e :: es) (m :: ms) := by
  refine ⟨PA.mono (pa_cons h.pe t.pa hs) fun σ H Q ⟨F, ρ, Hf, r, p⟩ => ?_⟩
  have p : Post (ctx X) F W σ (dA (ctx X) (k :: ks) (m :: ms) σ) Q Hf ((evArg k m (ev m) ρ).bind fun x => (evArgs ks ms x.2).bind fun y => .ok (x.1 :: y.1, y.2)) := p
  refine step r p fun o ρ' v H' Hf' r' s' dn p' => ?_
  refine step r' p' fun os ρ2 vs H2 Hf2 r2 s2 dn2 p2 => ?_
  refine p2 _ H2 Hf2 r2 (Same.refl _) ⟨o, os, v, vs, rfl, rfl, ?_, dn2⟩
  cases k with
  | im =>
    obtain ⟨d, e, w⟩ := dn
    exact ⟨d, e, Den.mono s2 _ _ w⟩
  | io => exact dn
  | br => exact dn
end
/-! ### what the arguments are -/
def ioIn (i : Nat) : List PK → List ME → Prop
  | .io :: ks, .var j :: ms => i = j ∨ ioIn i ks ms
  | _ :: ks, _ :: ms => ioIn i ks ms
  | _, _ => False
section
variable {c : Ct} {F : Fr} {ρ ρ' : Rho} {σ : St} {H Hf H' Hf' : Hp}
theorem args_ok (r : R c F ρ σ H Hf) : ∀ {ks : List PK} {ms : List ME} {os : List (Option D)} {vs : List V} {ds : List D}, dA c ks ms σ os vs Hf → finArgs ks ms os ρ = some ds → ArgsOk c Hf H ks ds vs
  | [], [], os, vs, ds, h, e => by
    obtain ⟨rfl, rfl⟩ := h
    cases e
    exact ⟨rfl, rfl⟩
  | k :: ks, m :: ms, os, vs, ds, h, e => by
    obtain ⟨o, os', v, vs', rfl, rfl, h3, h4⟩ := h
    unfold finArgs at e
    cases q : finArg k m o ρ with
    | none => rw [q] at e; cases e
    | some d =>
      cases q2 : finArgs ks ms os' ρ with
      | none => rw [q, q2] at e; cases e
      | some ds' =>
        rw [q, q2] at e
        cases e
        refine ⟨d, ds', v, vs', rfl, rfl, ?_, args_ok r h4 q2⟩
        cases k with
        | im =>
          obtain ⟨d', rfl, w⟩ := h3
          cases q
          exact w
        | io =>
          obtain ⟨i, rfl, w⟩ := h3
          have q : (match ρ[i]? with | some (.ow d) => some d | some (.io d) => some d | _ => none) = some d := q
          split at q
          · rename_i d' z
            cases q
            obtain ⟨a, w1, w2⟩ := r.own i _ _ z rfl
            rw [w] at w1
            cases w1
            exact ⟨a, rfl, w2⟩
          · rename_i d' z
            cases q
            obtain ⟨a, w1, w2⟩ := r.own i _ _ z rfl
            rw [w] at w1
            cases w1
            exact ⟨a, rfl, w2⟩
          · cases q
        | br =>
          obtain ⟨i, rfl, w⟩ := h3
          have q : (match ρ[i]? with | some (.ow d) => some d | some (.io d) => some d | some (.br d) => some d | _ => none) = some d := q
          split at q
          · rename_i d' z
            cases q
            obtain ⟨a, w1, w2⟩ := r.own i _ _ z rfl
            rw [w] at w1
            cases w1
            exact ⟨a, rfl, w2⟩
          · rename_i d' z
            cases q
            obtain ⟨a, w1, w2⟩ := r.own i _ _ z rfl
            rw [w] at w1
            cases w1
            exact ⟨a, rfl, w2⟩
          · rename_i d' z
            cases q
            obtain ⟨a, w1, w2⟩ := r.own i _ _ z rfl
            rw [w] at w1
            cases w1
            exact ⟨a, rfl, w2⟩
          · cases q
  | [], _ :: _, _, _, _, h, _ => h.elim
  | _ :: _, [], _, _, _, h, _ => h.elim
/-- the held arguments are own names -/
theorem args_at (r : R c F ρ σ H Hf) : ∀ {ks : List PK} {ms : List ME} {os : List (Option D)} {vs : List V} {ds : List D} {j : Nat} {k : PK} {a : Addr}, dA c ks ms σ os vs Hf → finArgs ks ms os ρ = some ds → ks[j]? = some k → k ≠ PK.im → vs[j]? = some (V.ref a) →
    ∃ i, ms[j]? = some (ME.var i) ∧ OwnAt ρ σ i a ∧ (k = .io → ioIn i ks ms ∧ ∃ d, ρ[i]? = some (Ent.ow d) ∨ ρ[i]? = some (Ent.io d))
  | [], [], os, vs, ds, j, k, a, h, e, h1, h2, h3 => by simp at h1
  | k0 :: ks, m :: ms, os, vs, ds, j, k, a, h, e, h1, h2, h3 => by
    obtain ⟨o, os', v, vs', rfl, rfl, h4, h5⟩ := h
    unfold finArgs at e
    cases q : finArg k0 m o ρ with
    | none => rw [q] at e; cases e
    | some d =>
      cases q2 : finArgs ks ms os' ρ with
      | none => rw [q, q2] at e; cases e
      | some ds' =>
        cases j with
        | succ j =>
          obtain ⟨i, w1, w2, w3⟩ := args_at r (j := j) h5 q2 (by simpa using h1) h2 (by simpa using h3)
          refine ⟨i, by simpa using w1, w2, fun z => ⟨?_, (w3 z).2⟩⟩
          cases k0 with
          | io =>
            cases m with
            | var i' => exact .inr (w3 z).1
            | _ => exact (w3 z).1
          | im => exact (w3 z).1
          | br => exact (w3 z).1
        | zero =>
          have h1 : k0 = k := by simpa using h1
          have h3 : v = .ref a := by simpa using h3
          subst h1 h3
          cases k0 with
          | im => exact absurd rfl h2
          | io =>
            obtain ⟨i, rfl, w⟩ := h4
            have q : (match ρ[i]? with | some (.ow d) => some d | some (.io d) => some d | _ => none) = some d := q
            refine ⟨i, rfl, ?_, fun _ => ⟨.inl rfl, ?_⟩⟩
            · split at q
              · rename_i d' z; exact ⟨_, _, z, rfl, w⟩
              · rename_i d' z; exact ⟨_, _, z, rfl, w⟩
              · cases q
            · split at q
              · rename_i d' z; exact ⟨_, .inl z⟩
              · rename_i d' z; exact ⟨_, .inr z⟩
              · cases q
          | br =>
            obtain ⟨i, rfl, w⟩ := h4
            have q : (match ρ[i]? with | some (.ow d) => some d | some (.io d) => some d | some (.br d) => some d | _ => none) = some d := q
            refine ⟨i, rfl, ?_, fun z => by cases z⟩
            split at q
            · rename_i d' z; exact ⟨_, _, z, rfl, w⟩
            · rename_i d' z; exact ⟨_, _, z, rfl, w⟩
            · rename_i d' z; exact ⟨_, _, z, rfl, w⟩
            · cases q
  | [], _ :: _, _, _, _, _, _, _, h, _, _, _, _ => h.elim
  | _ :: _, [], _, _, _, _, _, _, h, _, _, _, _ => h.elim
theorem refIn_at : ∀ {ks : List PK} {ms : List ME} {j i : Nat} {k : PK}, ks[j]? = some k → k ≠ PK.im → ms[j]? = some (ME.var i) → (∀ (j : Nat) (k : PK), ks[j]? = some k → k ≠ PK.im → ∀ m : ME, ms[j]? = some m → ∃ i, m = ME.var i) → refIn i ks ms = true
  | [], ms, j, i, k, h, _, _, _ => by simp at h
  | k0 :: ks, [], j, i, k, _, _, h, _ => by simp at h
  | k0 :: ks, m :: ms, j, i, k, h1, h2, h3, h4 => by
    have h4' : ∀ (j : Nat) (k : PK), ks[j]? = some k → k ≠ PK.im → ∀ m, ms[j]? = some m → ∃ i, m = ME.var i := fun j k a b m' c => h4 (j + 1) k (by simpa using a) b m' (by simpa using c)
    cases j with
    | zero =>
      have h1 : k0 = k := by simpa using h1
      have h3 : m = .var i := by simpa using h3
      subst h1 h3
      cases k0 with
      | im => exact absurd rfl h2
      | io => simp [refIn]
      | br => simp [refIn]
    | succ j =>
      have ih := refIn_at (ks := ks) (ms := ms) (j := j) (i := i) (k := k) (by simpa using h1) h2 (by simpa using h3) h4'
      cases k0 with
      | im => exact ih
      | io =>
        obtain ⟨i', rfl⟩ := h4 0 _ rfl (by simp) m rfl
        show (decide (i = i') || refIn i ks ms) = true
        rw [ih, Bool.or_true]
      | br =>
        obtain ⟨i', rfl⟩ := h4 0 _ rfl (by simp) m rfl
        show (decide (i = i') || refIn i ks ms) = true
        rw [ih, Bool.or_true]
theorem refNd_ne : ∀ {ks : List PK} {ms : List ME} {j j' i : Nat} {k k' : PK}, refNd ks ms = true → (∀ (j : Nat) (k : PK), ks[j]? = some k → k ≠ PK.im → ∀ m : ME, ms[j]? = some m → ∃ i, m = ME.var i) → ks[j]? = some k → k ≠ PK.im → ms[j]? = some (ME.var i) → ks[j']? = some k' → k' ≠ PK.im → ms[j']? = some (ME.var i) → j = j'
  | [], ms, j, j', i, k, k', _, _, h, _, _, _, _, _ => by simp at h
  | k0 :: ks, [], j, j', i, k, k', _, _, _, _, h, _, _, _ => by simp at h
  | k0 :: ks, m :: ms, j, j', i, k, k', hn, hv, h1, h2, h3, h4, h5, h6 => by
    have hv' : ∀ (j : Nat) (k : PK), ks[j]? = some k → k ≠ PK.im → ∀ m, ms[j]? = some m → ∃ i, m = ME.var i := fun j k a b m' c => hv (j + 1) k (by simpa using a) b m' (by simpa using c)
    have hn' : refNd ks ms = true := by
      cases k0 with
      | im => exact hn
      | io =>
        obtain ⟨i', rfl⟩ := hv 0 _ rfl (by simp) m rfl
        exact (Bool.and_eq_true _ _ ▸ (show (!refIn i' ks ms && refNd ks ms) = true from hn)).2
      | br =>
        obtain ⟨i', rfl⟩ := hv 0 _ rfl (by simp) m rfl
        exact (Bool.and_eq_true _ _ ▸ (show (!refIn i' ks ms && refNd ks ms) = true from hn)).2
    have hd : ∀ i', k0 ≠ .im → m = .var i' → refIn i' ks ms = false := fun i' hk hm => by
      subst hm
      cases k0 with
      | im => exact absurd rfl hk
      | io =>
        have := (Bool.and_eq_true _ _ ▸ (show (!refIn i' ks ms && refNd ks ms) = true from hn)).1
        simpa using this
      | br =>
        have := (Bool.and_eq_true _ _ ▸ (show (!refIn i' ks ms && refNd ks ms) = true from hn)).1
        simpa using this
    cases j with
    | zero =>
      cases j' with
      | zero => rfl
      | succ j' =>
        have h1 : k0 = k := by simpa using h1
        have h3 : m = .var i := by simpa using h3
        subst h1
        have e1 := hd i h2 h3
        have e2 := refIn_at (ks := ks) (ms := ms) (j := j') (by simpa using h4) h5 (by simpa using h6) hv'
        rw [e1] at e2
        cases e2
    | succ j =>
      cases j' with
      | zero =>
        have h4 : k0 = k' := by simpa using h4
        have h6 : m = .var i := by simpa using h6
        subst h4
        have e1 := hd i h5 h6
        have e2 := refIn_at (ks := ks) (ms := ms) (j := j) (by simpa using h1) h2 (by simpa using h3) hv'
        rw [e1] at e2
        cases e2
      | succ j' => rw [refNd_ne (ks := ks) (ms := ms) (j := j) (j' := j') hn' hv' (by simpa using h1) h2 (by simpa using h3) (by simpa using h4) h5 (by simpa using h6)]
theorem dA_vars : ∀ {ks : List PK} {ms : List ME} {os : List (Option D)} {vs : List V}, dA c ks ms σ os vs Hf → ∀ (j : Nat) (k : PK), ks[j]? = some k → k ≠ PK.im → ∀ m : ME, ms[j]? = some m → ∃ i, m = ME.var i
  | [], [], os, vs, h, j, k, h1, _, _, _ => by simp at h1
  | k0 :: ks, m0 :: ms, os, vs, h, j, k, h1, h2, m, h3 => by
    obtain ⟨o, os', v, vs', rfl, rfl, h4, h5⟩ := h
    cases j with
    | zero =>
      have h1 : k0 = k := by simpa using h1
      have h3 : m0 = m := by simpa using h3
      subst h1 h3
      cases k0 with
      | im => exact absurd rfl h2
      | io => obtain ⟨i, e, _⟩ := h4; exact ⟨i, e⟩
      | br => obtain ⟨i, e, _⟩ := h4; exact ⟨i, e⟩
    | succ j => exact dA_vars (j := j) h5 k (by simpa using h1) h2 m (by simpa using h3)
  | [], _ :: _, _, _, h, _, _, _, _, _, _ => h.elim
  | _ :: _, [], _, _, h, _, _, _, _, _, _ => h.elim
theorem ioIn_ref {i : Nat} : ∀ {ks : List PK} {ms : List ME}, ioIn i ks ms → (∀ (j : Nat) (k : PK), ks[j]? = some k → k ≠ PK.im → ∀ m : ME, ms[j]? = some m → ∃ i, m = ME.var i) → refIn i ks ms = true
  | [], ms, h, _ => by cases ms <;> exact h.elim
  | k :: ks, [], h, _ => by cases k <;> exact h.elim
  | k :: ks, m :: ms, h, hv => by
    have hv' : ∀ (j : Nat) (k : PK), ks[j]? = some k → k ≠ PK.im → ∀ m, ms[j]? = some m → ∃ i, m = ME.var i := fun j k a b m' c => hv (j + 1) k (by simpa using a) b m' (by simpa using c)
    cases k with
    | im => exact ioIn_ref (ks := ks) (ms := ms) h hv'
    | io =>
      obtain ⟨i', rfl⟩ := hv 0 _ rfl (by simp) m rfl
      show (decide (i = i') || refIn i ks ms) = true
      rcases (show i = i' ∨ ioIn i ks ms from h) with rfl | h
      · simp
      · rw [ioIn_ref h hv', Bool.or_true]
    | br =>
      obtain ⟨i', rfl⟩ := hv 0 _ rfl (by simp) m rfl
      show (decide (i = i') || refIn i ks ms) = true
      rw [ioIn_ref (ks := ks) (ms := ms) h hv', Bool.or_true]
/-- what came back -/
theorem outs_at : ∀ {ks : List PK} {ms : List ME} {os : List (Option D)} {vs : List V} {outs : List D} {ρ ρ' : Rho}, dA c ks ms σ os vs Hf → refNd ks ms = true → OutsOk c Hf' H' ks outs vs → outArgs ks ms outs ρ = some ρ' → ρ'.length = ρ.length ∧
    ∀ j : Nat, (ρ'[j]? = ρ[j]? ∧ ¬ ioIn j ks ms) ∨ (ioIn j ks ms ∧ ∃ d d' a, σ[j]? = some (some (V.ref a)) ∧ Own c Hf' H' d' a ∧ ((ρ[j]? = some (Ent.ow d) ∧ ρ'[j]? = some (Ent.ow d')) ∨ (ρ[j]? = some (Ent.io d) ∧ ρ'[j]? = some (Ent.io d'))))
  | [], [], os, vs, outs, ρ, ρ', h, _, ho, e => by
    obtain ⟨rfl, _⟩ := ho
    cases e
    exact ⟨rfl, fun j => .inl ⟨rfl, fun z => z⟩⟩
  | k :: ks, m :: ms, os, vs, outs, ρ, ρ', h, hn, ho, e => by
    have hvv := dA_vars h
    obtain ⟨o, os', v, vs', rfl, rfl, h4, h5⟩ := h
    cases k with
    | im =>
      obtain ⟨v', vs2, e2, ho⟩ := ho
      cases e2
      have e : outArgs ks ms outs ρ = some ρ' := by
        unfold outArgs at e
        exact e
      exact outs_at (ks := ks) (ms := ms) h5 hn ho e
    | br =>
      obtain ⟨v', vs2, e2, ho⟩ := ho
      cases e2
      obtain ⟨i, rfl, w⟩ := h4
      have e : outArgs ks ms outs ρ = some ρ' := by
        unfold outArgs at e
        exact e
      have hn : (!refIn i ks ms && refNd ks ms) = true := hn
      exact outs_at (ks := ks) (ms := ms) h5 (Bool.and_eq_true _ _ ▸ hn).2 ho e
    | io =>
      obtain ⟨d', os2, v', vs2, rfl, e2, ⟨a, rfl, wo⟩, ho⟩ := ho
      cases e2
      obtain ⟨i, rfl, w⟩ := h4
      have hn : (!refIn i ks ms && refNd ks ms) = true := hn
      obtain ⟨hn1, hn2⟩ := (Bool.and_eq_true _ _ ▸ hn)
      have hni : ¬ ioIn i ks ms := fun z => by
        have := ioIn_ref z (dA_vars h5)
        rw [this] at hn1
        cases hn1
      have e : (match ρ[i]? with
        | some (.ow _) => outArgs ks ms os2 (ρ.set i (.ow d'))
        | some (.io _) => outArgs ks ms os2 (ρ.set i (.io d'))
        | _ => none) = some ρ' := e
      have go : ∀ (en en' : Ent) (d0 : D), ρ[i]? = some en → ((en = .ow d0 ∧ en' = .ow d') ∨ (en = .io d0 ∧ en' = .io d')) → outArgs ks ms os2 (ρ.set i en') = some ρ' → ρ'.length = ρ.length ∧
          ∀ j : Nat, (ρ'[j]? = ρ[j]? ∧ ¬ ioIn j (.io :: ks) (.var i :: ms)) ∨ (ioIn j (.io :: ks) (.var i :: ms) ∧ ∃ d d' a, σ[j]? = some (some (V.ref a)) ∧ Own c Hf' H' d' a ∧ ((ρ[j]? = some (Ent.ow d) ∧ ρ'[j]? = some (Ent.ow d')) ∨ (ρ[j]? = some (Ent.io d) ∧ ρ'[j]? = some (Ent.io d')))) := fun en en' d0 q hk e => by
        obtain ⟨hl, hj⟩ := outs_at (ks := ks) (ms := ms) h5 hn2 ho e
        refine ⟨by rw [hl, List.length_set], fun j => ?_⟩
        by_cases hij : i = j
        · subst hij
          rcases hj i with ⟨z1, z2⟩ | ⟨z1, _⟩
          · rw [List.getElem?_set_self (lt_of_get q)] at z1
            refine .inr ⟨.inl rfl, d0, d', a, w, wo, ?_⟩
            rcases hk with ⟨rfl, rfl⟩ | ⟨rfl, rfl⟩
            · exact .inl ⟨q, z1⟩
            · exact .inr ⟨q, z1⟩
          · exact absurd z1 hni
        · rcases hj j with ⟨z1, z2⟩ | ⟨z1, z2⟩
          · rw [List.getElem?_set_ne hij] at z1
            exact .inl ⟨z1, fun z => (show j = i ∨ ioIn j ks ms from z).elim (fun z => hij z.symm) z2⟩
          · rw [List.getElem?_set_ne hij] at z2
            exact .inr ⟨.inr z1, z2⟩
      split at e
      · rename_i d0 q
        exact go _ _ d0 q (.inl ⟨rfl, rfl⟩) e
      · rename_i d0 q
        exact go _ _ d0 q (.inr ⟨rfl, rfl⟩) e
      · cases e
  | [], _ :: _, _, _, _, _, _, h, _, _, _ => h.elim
  | _ :: _, [], _, _, _, _, _, h, _, _, _ => h.elim
end

/-! ### the call -/
/-- a def that the module holds -/
structure FnAt (X : Cx) (x : Str) (f : FnE) : Prop where
  ex : ∃ (k : Nat) (fa : Addr) (fd : FuncData) (ps : List Str), X.mg x = some (.ref fa) ∧ FnOk X.prog X.w X.K X.mg X.base (L2N.CX X.prog X.w) k fa fd ps (spF (ctx X) f) ∧ PySem.W.keepIn X.K (.ref fa) = true ∧ Binds X.K fd ps [] ∧ Room k X.A
section
variable {X : Cx} {W : WX} {pos p : Pos} {x : Str} {f : FnE} {e : Expr} {es : List Expr} {ms : List ME}
theorem call_go {c : Ct} {F : Fr} {ρ ρ' : Rho} {σ : St} {H Hf H' Hf' : Hp} {os : List (Option D)} {vs : List V} {ds outs : List D} (r : R c F ρ σ H Hf) (hd : dA c f.ks ms σ os vs Hf) (hn : refNd f.ks ms = true) (hf : finArgs f.ks ms os ρ = some ds)
    (aft : Aft (MuOf f.ks vs) H Hf H' Hf') (ho : OutsOk c Hf' H' f.ks outs vs) (e : outArgs f.ks ms outs ρ = some ρ') : R c F ρ' σ H' Hf' := by
  obtain ⟨hl, hj⟩ := outs_at hd hn ho e
  have mu : ∀ a, MuOf f.ks vs a → ∃ i, OwnAt ρ σ i a ∧ ioIn i f.ks ms ∧ ∃ d, ρ[i]? = some (Ent.ow d) ∨ ρ[i]? = some (Ent.io d) := fun a ⟨i, h1, h2⟩ => by
    obtain ⟨i', w1, w2, w3⟩ := args_at r hd hf h1 (by simp) h2
    exact ⟨i', w2, (w3 rfl).1, (w3 rfl).2⟩
  refine r.call aft hl (fun j => ?_) fun a hm => ?_
  · rcases hj j with ⟨q1, q2⟩ | ⟨_, q2⟩
    · refine .inl ⟨q1, fun a ha hm => ?_⟩
      obtain ⟨i, w1, w2, _⟩ := mu a hm
      have := r.dist i j a w1 ha
      subst this
      exact q2 w2
    · exact .inr q2
  · obtain ⟨i, ⟨_, _, _, _, w1⟩, _, d, w2⟩ := mu a hm
    exact ⟨i, d, w2, w1⟩
theorem call_dist {c : Ct} {F : Fr} {ρ : Rho} {σ : St} {H Hf : Hp} {os : List (Option D)} {vs : List V} {ds : List D} (r : R c F ρ σ H Hf) (hd : dA c f.ks ms σ os vs Hf) (hn : refNd f.ks ms = true) (hf : finArgs f.ks ms os ρ = some ds) : DistOk f.ks vs := fun i j a k k' h1 h2 h3 h4 h5 h6 => by
  obtain ⟨i1, w1, w2, _⟩ := args_at r hd hf h1 h2 h5
  obtain ⟨i2, w3, w4, _⟩ := args_at r hd hf h3 h4 h6
  have := r.dist i1 i2 a w2 w4
  subst this
  exact refNd_ne hn (dA_vars hd) h1 h2 w1 h3 h4 w3
theorem noio {ks : List PK} {vs : List V} (h : ks.contains .io = false) : ∀ a, ¬ MuOf ks vs a := fun a ⟨i, h1, _⟩ => by
  have := List.mem_of_getElem? h1
  simp at h
  exact h this
theorem call_wishF {c : Ct} {σ : St} {H : Hp} {Q : VK} (hfr : f.fresh = true) (h : tvF c W (ev (.call f ms)) σ H Q) : tCallS (spF c f) (L2.WE W) (tvG c W (dA c f.ks ms) (evArgs f.ks ms)) σ H Q := by
  obtain ⟨F, ρ, Hf, r, p⟩ := h
  refine stepF (dnS := dA c f.ks ms) (f := fun x => match if refNd f.ks ms then finArgs f.ks ms x.1 x.2 else none with
    | none => .stuck
    | some ds => match f.F ds with
      | .stuck => .stuck
      | .exc c _ => if f.ks.contains .io then .stuck else .exc c x.2
      | .ok (d, outs) => match outArgs f.ks ms outs x.2 with
        | none => .stuck
        | some ρ' => .ok (d, ρ')) r p fun os ρ1 vs H1 Hf1 r1 s1 d1 p1 => ?_
  dsimp only at p1
  by_cases hn : refNd f.ks ms = true
  · rw [if_pos hn] at p1
    cases q : finArgs f.ks ms os ρ1 with
    | none => rw [q] at p1; exact p1.elim
    | some ds =>
      rw [q] at p1
      dsimp only at p1
      refine ⟨Hf1, ds, r1.sub, args_ok r1 d1 q, call_dist r1 d1 hn q, ?_⟩
      cases q2 : f.F ds with
      | stuck => rw [q2] at p1; exact p1.elim
      | exc n _ =>
        rw [q2] at p1
        dsimp only at p1 ⊢
        cases hio : f.ks.contains .io with
        | true => rw [hio, if_pos rfl] at p1; exact p1.elim
        | false =>
          rw [hio, if_neg (by simp)] at p1
          intro H' Hf' C aft m
          exact p1 H' Hf' C (r1.call aft rfl (fun j => .inl ⟨rfl, fun a _ => noio hio a⟩) (fun a hm => absurd hm (noio hio a))) aft.same m
      | ok y =>
        obtain ⟨d, outs⟩ := y
        rw [q2] at p1
        dsimp only at p1 ⊢
        intro v H' Hf' aft ho hv
        rw [if_pos hfr] at hv
        obtain ⟨a, rfl, wo, hna⟩ := hv
        cases q3 : outArgs f.ks ms outs ρ1 with
        | none => rw [q3] at p1; exact p1.elim
        | some ρ' =>
          rw [q3] at p1
          have r2 := call_go r1 d1 hn q aft ho q3
          refine p1 a H' Hf' r2 aft.same wo (r1.free hna).2 (fun i hi => ?_) ?_
          · obtain ⟨e, d', w1, w2, w3⟩ := hi
            obtain ⟨hl, hj⟩ := outs_at d1 hn ho q3
            have hoa : OwnAt ρ1 σ i a := by
              rcases hj i with ⟨z1, _⟩ | ⟨_, d0, d2, b, z1, _, z2⟩
              · rw [z1] at w1; exact ⟨e, d', w1, w2, w3⟩
              · rcases z2 with ⟨z2, _⟩ | ⟨z2, _⟩
                · exact ⟨_, _, z2, rfl, w3⟩
                · exact ⟨_, _, z2, rfl, w3⟩
            exact r1.own_ne hoa hna rfl
          · cases z : F.G a with
            | none => rfl
            | some u =>
              have := (r1.grd a u z).1
              rw [hna] at this
              cases this
  · rw [if_neg hn] at p1; exact p1.elim
theorem call_wish {c : Ct} {σ : St} {H : Hp} {Q : VK} (hfr : f.fresh = false) (h : tv c W (ev (.call f ms)) σ H Q) : tCallS (spF c f) (L2.WE W) (tvG c W (dA c f.ks ms) (evArgs f.ks ms)) σ H Q := by
  obtain ⟨F, ρ, Hf, r, p⟩ := h
  refine step (dnS := dA c f.ks ms) (f := fun x => match if refNd f.ks ms then finArgs f.ks ms x.1 x.2 else none with
    | none => .stuck
    | some ds => match f.F ds with
      | .stuck => .stuck
      | .exc c _ => if f.ks.contains .io then .stuck else .exc c x.2
      | .ok (d, outs) => match outArgs f.ks ms outs x.2 with
        | none => .stuck
        | some ρ' => .ok (d, ρ')) r p fun os ρ1 vs H1 Hf1 r1 s1 d1 p1 => ?_
  dsimp only at p1
  by_cases hn : refNd f.ks ms = true
  · rw [if_pos hn] at p1
    cases q : finArgs f.ks ms os ρ1 with
    | none => rw [q] at p1; exact p1.elim
    | some ds =>
      rw [q] at p1
      dsimp only at p1
      refine ⟨Hf1, ds, r1.sub, args_ok r1 d1 q, call_dist r1 d1 hn q, ?_⟩
      cases q2 : f.F ds with
      | stuck => rw [q2] at p1; exact p1.elim
      | exc n _ =>
        rw [q2] at p1
        dsimp only at p1 ⊢
        cases hio : f.ks.contains .io with
        | true => rw [hio, if_pos rfl] at p1; exact p1.elim
        | false =>
          rw [hio, if_neg (by simp)] at p1
          intro H' Hf' C aft m
          exact p1 H' Hf' C (r1.call aft rfl (fun j => .inl ⟨rfl, fun a _ => noio hio a⟩) (fun a hm => absurd hm (noio hio a))) aft.same m
      | ok y =>
        obtain ⟨d, outs⟩ := y
        rw [q2] at p1
        dsimp only at p1 ⊢
        intro v H' Hf' aft ho hv
        rw [if_neg (by rw [hfr]; simp)] at hv
        cases q3 : outArgs f.ks ms outs ρ1 with
        | none => rw [q3] at p1; exact p1.elim
        | some ρ' =>
          rw [q3] at p1
          exact p1 v H' Hf' (call_go r1 d1 hn q aft ho q3) aft.same hv
  · rw [if_neg hn] at p1; exact p1.elim
theorem s_callF (hfr : f.fresh = true) (tk : L2N.Takes X W) (F : FnAt X x f) (ha : SndA X W f.ks (e :: es) ms) (hg : Gl X x) (hdb : (x == ("__debug__" : Str)) = false) (he : starEach (e :: es) X.env = (false, eval e X.env) :: starEach es X.env) (hpl : (backTo pos (starEach es X.env)).any (·.1) = false) :
    SndF X W (.Call (.Name x p) (e :: es) [] pos) (.call f ms) := by
  obtain ⟨k, fa, fd, ps, hm, hF, hk, hb, hr⟩ := F.ex
  exact ⟨PE.mono (pe_callS hF hr hg hm hk hb (L2N.passAt tk) ha.pa hdb he hpl) fun σ H Q q => call_wishF hfr q⟩
theorem s_call (hfr : f.fresh = false) (tk : L2N.Takes X W) (F : FnAt X x f) (ha : SndA X W f.ks (e :: es) ms) (hg : Gl X x) (hdb : (x == ("__debug__" : Str)) = false) (he : starEach (e :: es) X.env = (false, eval e X.env) :: starEach es X.env) (hpl : (backTo pos (starEach es X.env)).any (·.1) = false) :
    Snd X W (.Call (.Name x p) (e :: es) [] pos) (.call f ms) := by
  obtain ⟨k, fa, fd, ps, hm, hF, hk, hb, hr⟩ := F.ex
  exact Snd.of (PE.mono (pe_callS hF hr hg hm hk hb (L2N.passAt tk) ha.pa hdb he hpl) fun σ H Q q => call_wish hfr q) (fun i z => nomatch z) (fun _ => rfl)
end
end NV

/-! NV.Q: more words. -/
namespace NV
open PySem PySem.Spec PyProof.Rows L2

theorem PE.or {X : Cx} {e : Expr} {t t' : TE} (h : PE X e t) (h' : PE X e t') : PE X e (fun σ H Q => t σ H Q ∨ t' σ H Q) := ⟨fun pins s σ H Q I q => q.elim (h.run pins s σ H Q I) (h'.run pins s σ H Q I)⟩
section
variable {X : Cx} {W : WX} {e a : Expr} {m : ME} {p p2 q pos : Pos}
/-! ### len(set(..)) -/
def sings (x : Str) : List Str := x.cps.toList.map fun c => (⟨#[c]⟩ : Str)
def tLs (K : PySem.W.Frag) (te : TE) : TE := fun σ H Q => te σ H fun x H1 => (∃ z : Str, x = .str z ∧ z.cps.size ≤ 4000 ∧ Q (.int (metN (sings z))) H1) ∨
  ∃ (l : Addr) (ns : List Int), x = .ref l ∧ SqL K H1 l (ns.map V.int) ∧ ns.length ≤ 4000 ∧ Q (.int (metN ns)) H1
theorem firstMet_met (ns : List Int) : firstMet (fun i => ns.getD i 0) ns.length = ns.foldl metL [] := by
  unfold firstMet
  have e1 : (List.range ns.length).map (fun i => ns.getD i 0) = ns := by
    refine List.ext_getElem? fun i => ?_
    rw [List.getElem?_map]
    by_cases h : i < ns.length
    · rw [List.getElem?_range h]
      simp [List.getElem?_eq_getElem h]
    · rw [List.getElem?_eq_none (by simpa using h), List.getElem?_eq_none (by omega)]
      rfl
  rw [e1]
  have e2 : (step_dedup : List Int → Int → List Int) = metL := by
    funext acc x
    unfold step_dedup metL
    by_cases h : x ∈ acc
    · rw [if_pos h, if_pos (by simpa using h)]
    · rw [if_neg h, if_neg (by simpa using h)]
  rw [e2]
theorem pe_ls {te : TE} (hg : Gl X "len") (hm : X.mg "len" = none) (hg2 : Gl X "set") (hm2 : X.mg "set" = none) (ha : PE X a te) (hc : X.calm = true)
    (na : starEach [a] X.env = (false, eval a X.env) :: starEach [] X.env) : PE X (.Call (.Name "len" p) [.Call (.Name "set" p2) [a] [] q] [] pos) (tLs X.K te) := by
  refine ⟨fun pins s σ H Q I h => ?_⟩
  refine Call_ (ld_blt I hg hm boot_len ?_)
  refine PyProof.Rows.callWith_builtin1 (PyProof.Rows.args_cons ?_ rfl) rfl rfl
  refine Call_ (ld_blt I hg2 hm2 boot_set ?_)
  refine PyProof.Rows.callWith_type1 (PyProof.Rows.args_cons (thn (ha.run pins s σ H _ I h) fun v s1 ⟨x, H1, I1, r1, q1⟩ => PyProof.Rows.args_nil ?_) na) na rfl
  rcases q1 with ⟨z, rfl, hz, q1⟩ | ⟨l, ns, rfl, hq, hl, q1⟩
  · obtain ⟨t, rfl⟩ := r1
    refine call_set_txt (I1.ok.hd hc) (by unfold scanBound; omega) fun h' tk hS hk => ?_
    refine PyProof.Rows.args_nil ?_
    obtain ⟨o, es, ep, t, ho, hex, hd, _, _, _, hf, hn⟩ := hS
    have I2 : Inv X pins σ H1 { s1 with heap := h', toks := tk } := I1.kept fun b o e => hk b o (Heap.lt_size e) e
    have hle : metN (sings z) ≤ 4000 := by
      have := met_le (sings z) []
      unfold metN
      have h2 : (sings z).length = z.cps.size := by simp [sings]
      simp only [List.length_nil] at this
      omega
    have hn' : es.size = metN (sings z) := hn
    exact call_len_set ho hex hd hf (by omega) ⟨.int (metN (sings z)), H1, I2.tok _, ⟨_, by rw [hn']⟩, q1⟩
  · cases r1
    obtain ⟨its, r, pl, hz⟩ := I1.list hq
    have hlen : its.toArray.size = ns.length := by rw [List.size_toArray, ← r.length, List.length_map]
    refine call_set_list (I1.ok.hd hc) pl.isList (by simpa using RZ.intsAre_vals r) (by rw [hlen]; unfold scanBound; omega) fun h' tk hS hk => ?_
    refine PyProof.Rows.args_nil ?_
    rw [hlen, firstMet_met] at hS
    obtain ⟨o, es, ep, t, ho, hex, hd, _, _, _, hf, hn⟩ := hS
    have I2 : Inv X pins σ H1 { s1 with heap := h', toks := tk } := I1.kept fun b o e => hk b o (Heap.lt_size e) e
    have hle : metN ns ≤ 4000 := by
      have := met_le ns []
      unfold metN
      simp only [List.length_nil] at this
      omega
    exact call_len_set ho hex hd hf (by rw [hn]; unfold metN at hle; omega) ⟨.int (metN ns), H1, I2.tok _, ⟨_, by rw [hn]; rfl⟩, q1⟩
theorem metL_map {α β : Type} [DecidableEq α] [DecidableEq β] (f : α → β) (hf : ∀ x y, f x = f y → x = y) (acc : List α) (x : α) : metL (acc.map f) (f x) = (metL acc x).map f := by
  unfold metL
  have e : f x ∈ acc.map f ↔ x ∈ acc := by
    rw [List.mem_map]
    exact ⟨fun ⟨y, h1, h2⟩ => by rw [← hf _ _ h2]; exact h1, fun h => ⟨x, h, rfl⟩⟩
  by_cases h : x ∈ acc
  · rw [if_pos h, if_pos (e.mpr h)]
  · rw [if_neg h, if_neg (fun z => h (e.mp z))]
    simp
theorem met_map {α β : Type} [DecidableEq α] [DecidableEq β] (f : α → β) (hf : ∀ x y, f x = f y → x = y) : ∀ (l acc : List α), (l.map f).foldl metL (acc.map f) = (l.foldl metL acc).map f
  | [], acc => rfl
  | x :: l, acc => by
    rw [List.map_cons, List.foldl_cons, metL_map f hf, met_map f hf l]
    rfl
theorem metN_map {α β : Type} [DecidableEq α] [DecidableEq β] (f : α → β) (hf : ∀ x y, f x = f y → x = y) (l : List α) : metN (l.map f) = metN l := by
  unfold metN
  have := met_map f hf l []
  rw [List.map_nil] at this
  rw [this, List.length_map]
theorem sing_inj (x y : Nat) (h : (⟨#[x]⟩ : Str) = ⟨#[y]⟩) : x = y := by
  have q2 : [x] = [y] := congrArg (fun y : Str => y.cps.toList) h
  exact (List.cons.inj q2).1
theorem allInt_den {c : Ct} {Hf : Hp} : ∀ {l : List D} {vs : List V} {is : List Int}, allInt l = some is → Dens c Hf l vs → vs = is.map V.int
  | [], vs, is, h, d => by
    cases h
    exact d
  | x :: l, vs, is, h, d => by
    obtain ⟨v, vs', rfl, d1, d2⟩ := d
    cases x with
    | int i =>
      have h : (allInt l).map (i :: ·) = some is := h
      cases q : allInt l with
      | none => rw [q] at h; cases h
      | some is' =>
        rw [q] at h
        cases h
        rw [allInt_den q d2]
        cases d1
        rfl
    | _ => cases h
theorem s_lenset (h : Snd X W a m) (hg : Gl X "len") (hm : X.mg "len" = none) (hg2 : Gl X "set") (hm2 : X.mg "set" = none) (hc : X.calm = true)
    (na : starEach [a] X.env = (false, eval a X.env) :: starEach [] X.env) : Snd X W (.Call (.Name "len" p) [.Call (.Name "set" p2) [a] [] q] [] pos) (.b1 .lenset m) := by
  refine Snd.of (PE.mono (pe_ls hg hm hg2 hm2 h.pp hc na) fun σ H Q ⟨F, ρ, Hf, r, p⟩ => ?_) (fun i z => nomatch z) (fun _ => rfl)
  refine step (dnS := dP (ctx X) m) (f := fun x => match fin m x.1 x.2 with | some d => opt (b1D .lenset d) x.2 | none => .stuck) r p fun o ρ' v H' Hf' r' s' dn p' => ?_
  dsimp only at p'
  cases z : fin m o ρ' with
  | none => rw [z] at p'; exact p'.elim
  | some d =>
    rw [z] at p'
    have tp := top_fin r' (Same.refl _) dn z
    cases d with
    | str l =>
      have p' : Post (ctx X) F W σ (dE (ctx X) σ) Q Hf' (opt (if l.length ≤ 4000 then some (.int (metN l)) else none) ρ') := p'
      split at p'
      · rename_i hl
        obtain ⟨rfl, _⟩ := (show Den (ctx X) Hf' (.str l) v from tp)
        refine .inl ⟨_, rfl, by simpa using hl, ?_⟩
        have e : metN (sings ⟨l.toArray⟩) = metN l := by
          unfold sings
          exact metN_map _ sing_inj l
        rw [e]
        exact p' _ H' Hf' r' (Same.refl _) rfl
      · exact p'.elim
    | lst l =>
      have p' : Post (ctx X) F W σ (dE (ctx X) σ) Q Hf' (opt (match allInt l with | some is => if is.length ≤ 4000 then some (.int (metN is)) else none | none => none) ρ') := p'
      cases q1 : allInt l with
      | none => rw [q1] at p'; exact p'.elim
      | some is =>
        rw [q1] at p'
        dsimp only at p'
        split at p'
        · rename_i hl
          obtain ⟨b, vs, rfl, h1, h2⟩ := tp
          have e := allInt_den q1 h2
          subst e
          exact .inr ⟨b, is, rfl, SqL.of h1, hl, p' _ H' Hf' r' (Same.refl _) rfl⟩
        · exact p'.elim
    | _ => exact p'.elim
/-! ### list(..) -/
theorem vals_of_get : ∀ {xs : List V} {us : List Value}, xs.length = us.length → (∀ (i : Nat) (x : V) (u : Value), xs[i]? = some x → us[i]? = some u → RelV x u) → Vals xs us
  | [], [], _, _ => .nil
  | [], _ :: _, h, _ => by simp at h
  | _ :: _, [], h, _ => by simp at h
  | x :: xs, u :: us, h, k => .cons (k 0 x u rfl rfl) (vals_of_get (by simpa using h) fun i y v h1 h2 => k (i + 1) y v (by simpa using h1) (by simpa using h2))
theorem items_sign {x : Str} {acc : Array Value} (h : ItemsOf (SignAt x) acc x.cps.size) : Vals ((sings x).map V.str) acc.toList := by
  refine vals_of_get (by simp [sings, h.1]) fun i y u h1 h2 => ?_
  obtain ⟨c, t, e1, rfl⟩ := h.2 i u (by simpa using h2)
  unfold sings at h1
  rw [List.getElem?_map, List.getElem?_map, Array.getElem?_toList, e1] at h1
  cases h1
  exact ⟨t, rfl⟩
def listD : D → Option D := fun d => match d with | .lst l => some (.lst l) | .tup l => some (.lst l) | .scr l => some (.lst (l.map .int)) | .str l => some (.lst (l.map fun c => .str [c])) | _ => none
theorem sings_den {c : Ct} (H : Hp) : ∀ (l : List Nat), (∀ x ∈ l, x < 0x110000) → Dens c H (l.map fun c => D.str [c]) ((l.map fun c => (⟨#[c]⟩ : Str)).map V.str)
  | [], _ => rfl
  | x :: l, h => ⟨_, _, rfl, ⟨rfl, by show 1 ≤ 16777216; decide, fun y hy => by
      have : y = x := by simpa using hy
      rw [this]
      exact h x List.mem_cons_self⟩, sings_den H l fun y hy => h y (List.mem_cons_of_mem _ hy)⟩
theorem call_listY (hc : X.calm = true) : CallR X (.type "list") (rB1F (ctx X) W listD) := by
  intro pins s σ0 H xs us Q I rv hh
  obtain ⟨F, ρ, σ, Hf, d, x, ex, r, tp, po⟩ := id hh
  cases d with
  | str l =>
    subst ex
    obtain ⟨rfl, g1, g2⟩ := (show Den (ctx X) Hf (.str l) x from tp)
    cases rv with
    | cons rx rr =>
      cases rr
      obtain ⟨t, rfl⟩ := rx
      have hz : l.length ≤ sizeLine := by rw [sizeLine_eq]; exact g1
      refine call_list_str (I.ok.hd hc) _ t (fun h' tk acc c' k hS hacc => ?_) (by simpa using hz)
      have v := items_sign hacc
      have ha : H s.heap.objs.size = none := I.hok.fresh (Nat.le_refl _)
      have J : Inv X pins σ0 (upd H s.heap.objs.size (.lst ((sings ⟨l.toArray⟩).map V.str))) { s with heap := h', toks := tk } := I.laid (t' := tk) k (Nat.le_refl _) ⟨by simpa [sings] using hz, _, _, v, hS⟩
      refine ⟨.ref _, _, J, rfl, ?_⟩
      refine PostF.new r po ha ⟨(r.free ha).1, _, upd_same, ?_⟩
      unfold sings
      exact sings_den _ l g2
  | lst l => exact call_listX pins s σ0 H xs us Q I rv ⟨F, ρ, σ, Hf, .lst l, x, ex, r, tp, po⟩
  | tup l => exact call_listX pins s σ0 H xs us Q I rv ⟨F, ρ, σ, Hf, .tup l, x, ex, r, tp, po⟩
  | scr l => exact call_listX pins s σ0 H xs us Q I rv ⟨F, ρ, σ, Hf, .scr l, x, ex, r, tp, po⟩
  | _ => exact po.elim
theorem s_list (h : SndL X W [a] [m]) (hg : Gl X "list") (hm : X.mg "list" = none) (hc : X.calm = true) (hv : bootBuiltins "list" = some (.type "list")) (he : starEach [a] X.env = (false, eval a X.env) :: starEach [] X.env) :
    SndF X W (.Call (.Name "list" p) [a] [] pos) (.b1 .list m) :=
  ⟨PE.mono (pe_callTy (call_listY hc) hg hm hv h.pps (by decide) (by decide) he) fun σ H Q q => s_b1F (fun d d' z => by cases d <;> exact z) h (fun d z => by cases d <;> first | exact z | exact absurd rfl z) σ H Q q⟩
/-! ### [::-1] -/
theorem pe_revS {k : Nat} {p1 p2 p3 : Pos} {te : TE} (he : PE X a te) : PE X (.Subscript a (.Slice none none (some (.UnaryOp .USub (.Constant (.int 1) k p1) p2)) p3) pos) (fun σ H Q => te σ H fun x H1 => ∃ z : Str, x = .str z ∧ z.cps.size ≤ sizeLine ∧ Q (.str ⟨z.cps.toList.reverse.toArray⟩) H1) := by
  refine ⟨fun pins s σ H Q I h => ?_⟩
  refine Subscript_ (thn (he.run pins s σ H _ I h) fun v s1 ⟨x, H1, I1, r1, q1⟩ => ?_)
  obtain ⟨z, ex, hz, q⟩ := q1
  subst ex
  obtain ⟨t, rfl⟩ := r1
  have hst : PO X (some (.UnaryOp .USub (.Constant (.int 1) k p1) p2)) (tPart (tUn (rU fun i => .int (-i)) (tC (.int 1)))) := po_some (pe_un un_neg pe_int)
  refine wpAny_Slice (thn (po_none.run pins s1 σ H1 (fun o H2 => o = none ∧ H2 = H1) I1 ⟨rfl, rfl⟩) fun vl s2 ⟨l, H2, I2, pl, el, e2⟩ => ?_)
  subst el e2
  refine thn (po_none.run pins s2 σ H2 (fun o H3 => o = none ∧ H3 = H2) I2 ⟨rfl, rfl⟩) fun vu s3 ⟨u, H3, I3, pu, eu, e3⟩ => ?_
  subst eu e3
  refine thn (hst.run pins s3 σ H3 (fun o H4 => o = some (-1) ∧ H4 = H3) I3 ⟨1, rfl, -1, rfl, rfl, rfl⟩) fun vs s4 ⟨o, H4, I4, ps, eo, e4⟩ => ?_
  subst eo e4
  have I5 : Inv X pins σ H4 { s4 with heap := s4.heap.push { cls := .type "slice", data := .fields #[vl, vu, vs] } } := I4.kept (t' := s4.toks) fun b ob q => Heap.get?_push_of_some _ q
  obtain ⟨l, rfl, hl0⟩ := IsPart.raw pl
  obtain ⟨u, rfl, hu0⟩ := IsPart.raw pu
  obtain ⟨st, rfl, hs0⟩ := IsPart.raw ps
  cases l with
  | some _ => cases hl0
  | none =>
    cases u with
    | some _ => cases hu0
    | none =>
      cases st with
      | none => cases hs0
      | some y =>
        obtain ⟨j, tk⟩ := y
        have hj : j = -1 := Option.some.inj hs0
        subst hj
        show wpAny (model X.prog X.w) X.A (subscriptTail a (.Slice none none (some (.UnaryOp .USub (.Constant (.int 1) k p1) p2)) p3) (.str z t) (.ref s4.heap.objs.size)) (EP X pins σ Q) X.xe _
        refine tail_any (ops := [.str z t, .ref s4.heap.objs.size]) (typeIs_str _ z t) (F.slot_str_getitem.lookup) ?_ (by with_unfolding_all rfl)
        refine wpAny_getItem_str_slice (l := none) (u := none) (st := some (-1, tk)) ⟨_, Heap.get?_push_size _ rfl, rfl, rfl⟩ rfl ?_
        have e1 : ((slicePicked z none none (some (-1, tk))).filterMap (z.cps[·]?)).toArray = z.cps.toList.reverse.toArray := by
          have e2 : slicePicked z none none (some (-1, tk)) = sliceRange ((z.cps.size : Int) - 1) (-1) (-1) := rfl
          rw [e2, PySem.W.krv_sliceRange, PySem.W.krv_range, List.filterMap_reverse, PySem.W.krv_all]
        show Made.post (if ((-1 : Int) == 1 && (slicePicked z none none (some (-1, tk))).length == z.length) = true then Made.val (.str z t) else Made.str ⟨((slicePicked z none none (some (-1, tk))).filterMap (z.cps[·]?)).toArray⟩) (EP X pins σ Q) _
        rw [if_neg (by simp), e1]
        exact ⟨by show (z.cps.toList.reverse.toArray).size ≤ sizeLine; simpa using hz, .str _, H4, I5.tok _, ⟨_, rfl⟩, q⟩
theorem s_rev {k : Nat} {p1 p2 p3 : Pos} (h : Snd X W a m) (ht : ∀ whole, isTrue (.Subscript a (.Slice none none (some (.UnaryOp .USub (.Constant (.int 1) k p1) p2)) p3) pos) X.env whole = (do let v ← whole; standAt (Expr.Subscript a (.Slice none none (some (.UnaryOp .USub (.Constant (.int 1) k p1) p2)) p3) pos).pos; holding [v] (truthy v))) :
    Snd X W (.Subscript a (.Slice none none (some (.UnaryOp .USub (.Constant (.int 1) k p1) p2)) p3) pos) (.rev m) := by
  refine Snd.of (PE.mono (PE.or (pe_revS h.pp) (pe_revL h.pp)) fun σ H Q ⟨F, ρ, Hf, r, p⟩ => ?_) (fun i z => nomatch z) ht
  have p : Post (ctx X) F W σ (dE (ctx X) σ) Q Hf ((pre m (ev m) ρ).bind fun x => match fin m x.1 x.2 with
    | some (.lst l) => .ok (.lst l.reverse, x.2)
    | some (.str l) => .ok (.str l.reverse, x.2)
    | _ => .stuck) := p
  cases q : pre m (ev m) ρ with
  | stuck => rw [q] at p; exact p.elim
  | exc n ρ' => exact .inl ⟨F, ρ, Hf, r, by rw [q] at p ⊢; exact p⟩
  | ok x =>
    obtain ⟨o, ρ'⟩ := x
    rw [q] at p
    dsimp only [Out.bind] at p
    cases z : fin m o ρ' with
    | none => rw [z] at p; exact p.elim
    | some d =>
      rw [z] at p
      cases d with
      | str l =>
        refine .inl ⟨F, ρ, Hf, r, ?_⟩
        rw [q]
        intro v H' Hf' r' s' dn
        obtain ⟨rfl, g1, g2⟩ := (show Den (ctx X) Hf' (.str l) v from top_fin r' (Same.refl _) dn z)
        refine ⟨_, rfl, ?_, ?_⟩
        · rw [sizeLine_eq]; simpa using g1
        · exact p _ H' Hf' r' s' ⟨by simp, by simpa using g1, fun y hy => g2 y (by simpa using hy)⟩
      | lst l =>
        refine .inr ⟨F, ρ, Hf, r, ?_⟩
        rw [q]
        intro v H' Hf' r' s' dn
        obtain ⟨b, vs, rfl, h1, h2⟩ := (show Top (ctx X) Hf' H' (.lst l) v from top_fin r' (Same.refl _) dn z)
        refine ⟨b, vs, rfl, SqL.of h1, fun a ha => ?_⟩
        obtain ⟨r2, s2⟩ := r'.alloc ha (.lst vs.reverse)
        exact p _ _ _ r2 (s'.trans s2) ⟨a, _, rfl, upd_same, Dens.mono s2 _ _ (Dens.reverse h2)⟩
      | _ => exact p.elim
end
end NV

/-! NV.R: raise, append, x[i] = v. -/
namespace NV
open PySem PySem.Spec PyProof.Rows L2

/-- a class of exceptions of the module -/
structure ExcAt (X : Cx) (n : Str) : Prop where
  ex : ∃ (C : Addr) (B newId initId : String) (bmB : List Value), ExcBaseFacts B newId initId bmB ∧ PySem.W.excIn X.K C bmB newId = true ∧ X.mg n = some (.ref C) ∧ PySem.W.keepIn X.K (.ref C) = true ∧
    PySem.W.subIn X.K (.ref C) (.type "BaseException") = some true ∧ PySem.W.typeIn X.K (.ref C) = some (.type "type")
section
variable {X : Cx} {W : WX} {fr : Bool} {n : Nat} {pos pos2 p p2 : Pos}
theorem ss_rai {x : String} {msg : Str} {j : Nat} (hc : X.calm = true) (tk : L2N.Takes X W) (h : ExcAt X (Str.ofString x)) (hg : Gl X (Str.ofString x)) (hdb : ((Str.ofString x) == ("__debug__" : Str)) = false) :
    SndS X W fr n (.Raise (some (.Call (.Name (Str.ofString x) p) [.Constant (.str msg) j p2] [] pos)) none pos2) (.rai x) := by
  obtain ⟨C, B, newId, initId, bmB, F, q, gC, kC, sub, ty⟩ := h.ex
  refine ⟨PS.mono (L2N.ps_raise hc tk (L2N.pmk_own F q gC kC (raises_own sub ty) hg hdb)) fun D σ H ⟨F, ρ, Hf, r, p⟩ => ?_⟩
  exact p σ H Hf C r (Same.refl _) gC
theorem owAt_some {ρ : Rho} {i : Nat} {d : D} {f : D → Ent} (h : owAt ρ i = some (d, f)) : ∃ e, ρ[i]? = some e ∧ e.own? = some d ∧ ((e = .ow d ∧ f = .ow) ∨ (e = .io d ∧ f = .io)) := by
  unfold owAt at h
  split at h
  · rename_i d' q
    cases h
    exact ⟨_, q, rfl, .inl ⟨rfl, rfl⟩⟩
  · rename_i d' q
    cases h
    exact ⟨_, q, rfl, .inr ⟨rfl, rfl⟩⟩
  · cases h
theorem owAt_peek {ρ : Rho} {i : Nat} {d : D} {f : D → Ent} (h : owAt ρ i = some (d, f)) : peek ρ i = some d := by
  obtain ⟨e, h1, _, h2⟩ := owAt_some h
  unfold peek
  rw [h1]
  rcases h2 with ⟨rfl, _⟩ | ⟨rfl, _⟩ <;> rfl
/-- an own name's address, read -/
theorem own_read {c : Ct} {F : Fr} {ρ : Rho} {σ : St} {H Hf : Hp} {W : WX} {i : Nat} {d : D} {f : D → Ent} {Q : VK} (r : R c F ρ σ H Hf) (h : owAt ρ i = some (d, f)) (k : ∀ a, σ[i]? = some (some (.ref a)) → Own c Hf H d a → ∀ H' Hf', R c F ρ σ H' Hf' → Same Hf Hf' → Q (.ref a) H') : tP c W (.var i) σ H Q := by
  refine ⟨F, ρ, Hf, r, ?_⟩
  have e1 : pre (.var i) (ev (.var i)) ρ = .ok (none, ρ) := by
    show (match peek ρ i with | some _ => Out.ok (none, ρ) | none => Out.stuck) = _
    rw [owAt_peek h]
  rw [e1]
  intro v H' Hf' r' s' hv
  have hv : σ[i]? = some (some v) := hv
  obtain ⟨e, h1, h2, _⟩ := owAt_some h
  obtain ⟨a, w1, w2⟩ := r.own i e d h1 h2
  rw [hv] at w1
  cases w1
  exact k a hv w2 H' Hf' r' s'
theorem own_mut {c : Ct} {F : Fr} {ρ : Rho} {σ : St} {H Hf : Hp} {i : Nat} {d d' : D} {f : D → Ent} {a : Addr} {o : HO} (r : R c F ρ σ H Hf) (h : owAt ρ i = some (d, f)) (hs : σ[i]? = some (some (.ref a))) (w : Own c Hf (upd H a o) d' a) : R c F (ρ.set i (f d')) σ (upd H a o) Hf := by
  obtain ⟨e, h1, h2, h3⟩ := owAt_some h
  refine r.mut h1 h2 hs ?_ w
  rcases h3 with ⟨rfl, rfl⟩ | ⟨rfl, rfl⟩
  · exact .inl ⟨rfl, rfl⟩
  · exact .inr ⟨rfl, rfl⟩
theorem own_at {c : Ct} {F : Fr} {ρ : Rho} {σ : St} {H Hf : Hp} {i : Nat} {d : D} {f : D → Ent} {a : Addr} (r : R c F ρ σ H Hf) (h : owAt ρ i = some (d, f)) (hs : σ[i]? = some (some (.ref a))) : Own c Hf H d a := by
  obtain ⟨e, h1, h2, _⟩ := owAt_some h
  obtain ⟨b, w1, w2⟩ := r.own i e d h1 h2
  rw [hs] at w1
  cases w1
  exact w2
/-- name.append(e) -/
theorem ss_app {o x : Expr} {i : Nat} {e : ME} {apos cpos : Pos} (ho : Snd X W o (.var i)) (h : Snd X W x e)
    (hb : attributeBase o "append" X.env (eval o X.env) = eval o X.env)
    (hfew : ((backTo cpos (starEach (x :: []) X.env)).all (fun x => !x.1) && (backToKw cpos (keywordEach [] X.env)).all (fun x => x.1.isSome)
      && decide ((x :: []).length + ([] : List Keyword).length + (if ([] : List Keyword).isEmpty then 0 else 1) < 30)) = true)
    (hline : (apos.endLine == cpos.line) = true) (hs : starEach (x :: []) X.env = (false, eval x X.env) :: starEach [] X.env) (hplain : (backTo cpos (starEach [] X.env)).any (·.1) = false)
    (hsw : swapsWith (.Call (.Attribute o "append" apos) [x] [] cpos) none pos.line X.env = pure false) : SndS X W fr n (.Expr (.Call (.Attribute o "append" apos) [x] [] cpos) pos) (.app i e) := by
  refine ⟨PS.mono (ps_expr (pe_bm PySem.F.plainAttrs_list PySem.F.slot_list_append PySem.F.type_list_append mt_append ho.pp (pa_cons h.pe pa_nil hs) hb hfew hline hs hplain) hsw) fun D σ H ⟨F, ρ, Hf, r, p⟩ => ?_⟩
  have p : PostS (ctx X) F W fr D Hf (match owAt ρ i with
    | some (.lst _, _) => (ev e ρ).bind fun x => match owAt x.2 i with
      | some (d, f) => match appW d x.1 with
        | some d' => .ok (.nx, x.2.set i (f d'))
        | none => .stuck
      | none => .stuck
    | _ => .stuck) := p
  cases q : owAt ρ i with
  | none => rw [q] at p; exact p.elim
  | some y =>
    obtain ⟨d, f⟩ := y
    rw [q] at p
    cases d with
    | lst l0 =>
      dsimp only at p
      refine own_read r q fun a ha w H1 Hf1 r1 s1 => ?_
      obtain ⟨_, vs0, w1, _⟩ := own_at r1 q ha
      refine ⟨.inl ⟨rfl, vs0, SqL.of w1⟩, ?_⟩
      refine stepS (dnS := dE (ctx X)) (f := fun x => match owAt x.2 i with
        | some (d, f) => match appW d x.1 with
          | some d' => .ok (.nx, x.2.set i (f d'))
          | none => .stuck
        | none => .stuck) r1 (PostS.mono s1 p) fun d ρ2 v H2 Hf2 r2 s2 dn p2 => ?_
      dsimp only at p2
      cases q2 : owAt ρ2 i with
      | none => rw [q2] at p2; exact p2.elim
      | some y2 =>
        obtain ⟨d2, f2⟩ := y2
        rw [q2] at p2
        dsimp only at p2
        cases d2 with
        | lst l =>
          have p2 : PostS (ctx X) F W fr D Hf2 (match (if l.length < 16777215 then some (NV.D.lst (l ++ [d])) else none) with
            | some d' => .ok (.nx, ρ2.set i (f2 d'))
            | none => .stuck) := p2
          by_cases hl : l.length < 16777215
          · rw [if_pos hl] at p2
            obtain ⟨g0, vs, g1, g2⟩ := own_at r2 q2 ha
            have hlen := Dens.length g2
            refine ⟨a, vs, v, rfl, rfl, g1, by rw [sizeLine_eq]; omega, ?_⟩
            have w2 : Own (ctx X) Hf2 (upd H2 a (.lst (vs ++ [v]))) (.lst (l ++ [d])) a := ⟨g0, _, upd_same, Dens.append g2 (Dens.one dn)⟩
            exact p2 σ _ Hf2 (own_mut r2 q2 ha w2) (Same.refl _)
          · rw [if_neg hl] at p2; exact p2.elim
        | _ => exact p2.elim
    | _ => exact p.elim
/-- name[k] = v, the name an own list's -/
theorem ss_setI {o x y : Expr} {i : Nat} {e k : ME} {p3 : Pos} (ho : Snd X W o (.var i)) (hk : Snd X W y k) (h : Snd X W x e)
    (ha : ∀ v, assign (.Subscript o y p3) X.env v = (do
      let ov ← holding [v] (eval o X.env)
      let iv ← holding [v, ov] (eval y X.env)
      standAt p3
      holding [v, ov, iv] (setItem ov iv v)
      release [v, ov, iv] []))
    (hs : swapsWithSole [.Subscript o y p3] x pos.line X.env = pure false) (hw : swappedStores [.Subscript o y p3] x X.env = pure none) (h1 : (assignEach [.Subscript o y p3] X.env).map (·.2) = [assign (.Subscript o y p3) X.env]) :
    SndS X W fr n (.Assign [.Subscript o y p3] x pos) (.setI i k e) := by
  refine ⟨PS.mono (ps_asg h.pe (pg_sub ho.pp hk.pe set_list ha) hs hw h1) fun D σ H ⟨F, ρ, Hf, r, p⟩ => ?_⟩
  refine stepS (dnS := dE (ctx X)) (f := fun x => match owAt x.2 i with
    | some _ => (ev k x.2).bind fun y => match owAt y.2 i with
      | some (d, f) => match setIW d y.1 x.1 with
        | some d' => .ok (.nx, y.2.set i (f d'))
        | none => .stuck
      | none => .stuck
    | none => .stuck) r p fun d ρ1 v H1 Hf1 r1 s1 dn p1 => ?_
  dsimp only at p1
  cases q : owAt ρ1 i with
  | none => rw [q] at p1; exact p1.elim
  | some z =>
    obtain ⟨d0, f0⟩ := z
    rw [q] at p1
    dsimp only at p1
    show tP (ctx X) W (.var i) σ H1 _
    refine own_read r1 q fun a ha w H2 Hf2 r2 s2 => ?_
    refine stepS (dnS := dE (ctx X)) (f := fun y => match owAt y.2 i with
      | some (d2, f) => match setIW d2 y.1 d with
        | some d' => .ok (.nx, y.2.set i (f d'))
        | none => .stuck
      | none => .stuck) r2 (PostS.mono s2 p1) fun dk ρ3 vk H3 Hf3 r3 s3 dnk p3 => ?_
    dsimp only at p3
    cases q3 : owAt ρ3 i with
    | none => rw [q3] at p3; exact p3.elim
    | some z =>
      obtain ⟨d3, f3⟩ := z
      rw [q3] at p3
      dsimp only at p3
      cases d3 with
      | lst l =>
        cases dk with
        | int j =>
          have p3 : PostS (ctx X) F W fr D Hf3 (match (if 0 ≤ j ∧ j < l.length then some (NV.D.lst (l.set j.toNat d)) else none) with
            | some d' => .ok (.nx, ρ3.set i (f3 d'))
            | none => .stuck) := p3
          by_cases hj : 0 ≤ j ∧ j < l.length
          · rw [if_pos hj] at p3
            obtain ⟨g0, vs, g1, g2⟩ := own_at r3 q3 ha
            have hlen := Dens.length g2
            cases dnk
            refine ⟨a, vs, j, j.toNat, rfl, rfl, g1, ?_, ?_⟩
            · unfold ixN
              rw [if_pos hj.1, if_pos (by rw [← hlen]; exact hj.2)]
            · have w2 : Own (ctx X) Hf3 (upd H3 a (.lst (vs.set j.toNat v))) (.lst (l.set j.toNat d)) a := ⟨g0, _, upd_same, Dens.set _ g2 (Den.mono (s2.trans s3) _ _ dn)⟩
              exact p3 σ _ Hf3 (own_mut r3 q3 ha w2) (Same.refl _)
          · rw [if_neg hj] at p3; exact p3.elim
        | _ => exact p3.elim
      | _ => exact p3.elim
end
end NV

/-! NV.S: the lemmas as a generator of proof terms wants them. -/
namespace NV
open PySem PySem.Spec PyProof.Rows L2

/-- the built-ins are not hidden by the module -/
structure Blt (mg : Str → Option Value) : Prop where
  len : mg "len" = none
  all : mg "all" = none
  any : mg "any" = none
  int : mg "int" = none
  tuple : mg "tuple" = none
  list : mg "list" = none
  isinstance : mg "isinstance" = none
  range : mg "range" = none
  zip : mg "zip" = none
  enumerate : mg "enumerate" = none
  set : mg "set" = none
  str : mg "str" = none
  bool : mg "bool" = none
/-- what holds in every context of the module's text -/
structure Okc (X : Cx) (W : WX) : Prop where
  hu : X.A.units + 65 < cLine
  tk : L2N.Takes X W
  blt : Blt X.mg
  mach : MachOk (ctx X)
  cls : ClsOk (ctx X)
  calm : X.calm = true
  nd : X.N.Nodup
theorem Okc.blk {X : Cx} {W : WX} (o : Okc X W) (s : Shared) (H : Hp) (scope : Scope) (env : Env) (fp : List Addr) : Okc (X.blk s H scope env fp) W0 :=
  ⟨o.hu, fun u s' ⟨_, _, _, _, _, _, _, _, _, _, _, _, _, _, _, _, w⟩ => w.elim, o.blt, o.mach, o.cls, o.calm, o.nd⟩
/-- a def of the module, at its level -/
structure FnG (P : Program) (w : World) (K : PySem.W.Frag) (mg : Str → Option Value) (base : Heap) (k : Nat) (x : Str) (f : FnE) : Prop where
  ex : ∃ (fa : Addr) (fd : FuncData) (ps : List Str), mg x = some (.ref fa) ∧ FnOk P w K mg base (L2N.CX P w) k fa fd ps (spF ⟨P, w, K, mg⟩ f) ∧ PySem.W.keepIn K (.ref fa) = true ∧ Binds K fd ps []
theorem FnG.at {X : Cx} {k j : Nat} {x : Str} {f : FnE} (F : FnG X.prog X.w X.K X.mg X.base k x f) (hr : Room j X.A) (hk : k ≤ j) : FnAt X x f := by
  obtain ⟨fa, fd, ps, h1, h2, h3, h4⟩ := F.ex
  exact ⟨k, fa, fd, ps, h1, h2, h3, h4, hr.mono hk⟩
def goodS (l : List Nat) : Bool := decide (l.length ≤ 16777216) && l.all fun x => decide (x < 0x110000)
theorem good_of {l : List Nat} (h : goodS l = true) : strGood l := by
  unfold goodS at h
  rw [Bool.and_eq_true, decide_eq_true_eq, List.all_eq_true] at h
  exact ⟨h.1, fun x hx => by simpa using h.2 x hx⟩
section
variable {X : Cx} {W : WX} {fr : Bool} {n : Nat} {pos pos2 p p2 p3 q : Pos} {e a b c : Expr} {m ma mb mc : ME} {x : Str} {i j k : Nat}
theorem g_v (hi : X.N[i]? = some x := by rfl) (hv : Vis X.env.scope x := by first | exact .inl rfl | exact .inr (.inl rfl) | exact .inr (.inr rfl)) (hd : (x == ("__debug__" : Str)) = false := by decide) (hcd : (x == ("__classdict__" : Str)) = false := by decide) : Snd X W (.Name x pos) (.var i) :=
  s_var (pe_var hi hv hd hcd) (fun _ => rfl)
theorem g_int {z : Int} : Snd X W (.Constant (.int z) j pos) (.cst (.int z)) := s_cst pe_int (fun _ => rfl) (fun _ => rfl)
theorem g_bl {z : Bool} : Snd X W (.Constant (.bool z) j pos) (.cst (.bl z)) := s_cst pe_bl (fun _ => rfl) (fun _ => rfl)
theorem g_non : Snd X W (.Constant .none j pos) (.cst .non) := s_cst pe_non (fun _ => rfl) (fun _ => rfl)
theorem g_str {l : List Nat} (h : x = ⟨l.toArray⟩ := by rfl) (hg : goodS l = true := by decide) : Snd X W (.Constant (.str x) j pos) (.cst (.str l)) :=
  s_cst pe_str (fun _ => ⟨by rw [h], good_of hg⟩) (fun _ => rfl)
theorem g_gs {l : List Nat} {z : Str} (hm : ∃ t, X.mg x = some (.str z t)) (h : z = ⟨l.toArray⟩ := by rfl) (hg : goodS l = true := by decide) (hl : Gl X x := by rfl) (hd : (x == ("__debug__" : Str)) = false := by decide) : Snd X W (.Name x pos) (.cst (.str l)) :=
  let ⟨t, hm⟩ := hm; s_cst (pe_glob (v := .str z) hl hm ⟨t, rfl⟩ hd) (fun _ => ⟨by rw [h], good_of hg⟩) (fun _ => rfl)
theorem g_gi {z : Int} (hm : ∃ t, X.mg x = some (.int z t)) (hl : Gl X x := by rfl) (hd : (x == ("__debug__" : Str)) = false := by decide) : Snd X W (.Name x pos) (.cst (.int z)) :=
  let ⟨t, hm⟩ := hm; s_cst (pe_glob (v := .int z) hl hm ⟨t, rfl⟩ hd) (fun _ => rfl) (fun _ => rfl)
theorem g_op (o : Op) (ha : Snd X W a ma) (hb : Snd X W b mb) : Snd X W (.BinOp a (opOp o) b pos) (.bin o ma mb) := s_op ha hb (op_bi o)
theorem g_cmp (O : Okc X W) (o : Cm) (ha : Snd X W a ma) (hb : Snd X W b mb) (hm : behindInMarks (cmOp o) b = false := by rfl) : Snd X W (.Compare a [cmOp o] [b] pos) (.cmp o ma mb) := s_cmp ha hb hm (op_cm O.hu o)
theorem g_chn (O : Okc X W) (o o' : Cm) (ha : Snd X W a ma) (hb : Snd X W b mb) (hc : Snd X W c mc) (hm : lastMarks [cmOp o, cmOp o'] [b, c] = false := by rfl) : Snd X W (.Compare a [cmOp o, cmOp o'] [b, c] pos) (.chn o o' ma mb mc) := s_chn O.hu ha hb hc hm
theorem g_idx (O : Okc X W) (ha : Snd X W a ma) (hb : Snd X W b mb) (hp : PlainIx b := by intro _ _; rfl) : Snd X W (.Subscript a b pos) (.idx ma mb) := s_idx O.hu ha hb hp
theorem g_rev (h : Snd X W a m) (ht : ∀ whole, isTrue (.Subscript a (.Slice none none (some (.UnaryOp .USub (.Constant (.int 1) k p) p2)) p3) pos) X.env whole = (do let v ← whole; standAt (Expr.Subscript a (.Slice none none (some (.UnaryOp .USub (.Constant (.int 1) k p) p2)) p3) pos).pos; holding [v] (truthy v)) := by intro _; rfl) :
    Snd X W (.Subscript a (.Slice none none (some (.UnaryOp .USub (.Constant (.int 1) k p) p2)) p3) pos) (.rev m) := s_rev h ht
theorem g_len (O : Okc X W) (h : Snd X W a m) (hg : Gl X "len" := by rfl) (he : starEach [a] X.env = (false, eval a X.env) :: starEach [] X.env := by rfl) : Snd X W (.Call (.Name "len" p) [a] [] pos) (.b1 .len m) :=
  s_b1 (.cons h he .nil) call_lenX hg O.blt.len boot_len (by decide) (by decide) he
theorem g_all (O : Okc X W) (h : Snd X W a m) (hg : Gl X "all" := by rfl) (he : starEach [a] X.env = (false, eval a X.env) :: starEach [] X.env := by rfl) : Snd X W (.Call (.Name "all" p) [a] [] pos) (.b1 .all m) :=
  s_b1 (.cons h he .nil) (call_allX O.calm) hg O.blt.all (by rfl) (by decide) (by decide) he
theorem g_any (O : Okc X W) (h : Snd X W a m) (hg : Gl X "any" := by rfl) (he : starEach [a] X.env = (false, eval a X.env) :: starEach [] X.env := by rfl) : Snd X W (.Call (.Name "any" p) [a] [] pos) (.b1 .any m) :=
  s_b1 (.cons h he .nil) (call_anyX O.calm) hg O.blt.any (by rfl) (by decide) (by decide) he
theorem g_toint (O : Okc X W) (h : Snd X W a m) (hg : Gl X "int" := by rfl) (he : starEach [a] X.env = (false, eval a X.env) :: starEach [] X.env := by rfl) : Snd X W (.Call (.Name "int" p) [a] [] pos) (.b1 .int m) :=
  s_b1T (.cons h he .nil) call_intX hg O.blt.int (by rfl) (by decide) (by decide) he
theorem g_totup (O : Okc X W) (h : Snd X W a m) (hg : Gl X "tuple" := by rfl) (he : starEach [a] X.env = (false, eval a X.env) :: starEach [] X.env := by rfl) : Snd X W (.Call (.Name "tuple" p) [a] [] pos) (.b1 .tuple m) :=
  s_b1T (.cons h he .nil) call_tupleX hg O.blt.tuple (by rfl) (by decide) (by decide) he
theorem g_tolist (O : Okc X W) (h : Snd X W a m) (hg : Gl X "list" := by rfl) (he : starEach [a] X.env = (false, eval a X.env) :: starEach [] X.env := by rfl) : SndF X W (.Call (.Name "list" p) [a] [] pos) (.b1 .list m) :=
  s_list (.cons h he .nil) hg O.blt.list O.calm (by rfl) he
theorem g_lenset (O : Okc X W) (h : Snd X W a m) (hg : Gl X "len" := by rfl) (hg2 : Gl X "set" := by rfl) (he : starEach [a] X.env = (false, eval a X.env) :: starEach [] X.env := by rfl) : Snd X W (.Call (.Name "len" p) [.Call (.Name "set" p2) [a] [] q] [] pos) (.b1 .lenset m) :=
  s_lenset h hg O.blt.len hg2 O.blt.set O.calm he
/-- a new container as a value -/
theorem g_val (h : SndF X W e m) (hm : ∀ i, m ≠ .var i := by intro _ z; exact nomatch z) (he : ∀ whole, isTrue e X.env whole = (do let v ← whole; standAt e.pos; holding [v] (truthy v)) := by intro _; rfl) : Snd X W e m := h.snd hm he
theorem g_isi (O : Okc X W) {t : String} (h : Snd X W a m) (hm2 : X.mg (Str.ofString t) = none) (hv : bootBuiltins (Str.ofString t) = some (.type t) := by rfl) (ht : t ∈ tyL := by decide) (hl : Gl X (Str.ofString t) := by rfl) (hg : Gl X "isinstance" := by rfl)
    (he : starEach [a, .Name (Str.ofString t) p2] X.env = [(false, eval a X.env), (false, eval (.Name (Str.ofString t) p2) X.env)] := by rfl) (he2 : starEach [.Name (Str.ofString t) p2] X.env = [(false, eval (.Name (Str.ofString t) p2) X.env)] := by rfl) (hn : Str.ofString t ≠ "__name__" := by decide) (hd : (Str.ofString t == ("__debug__" : Str)) = false := by decide) :
    Snd X W (.Call (.Name "isinstance" p) [a, .Name (Str.ofString t) p2] [] pos) (.isi m t) :=
  s_isi O.mach h (pe_bltn (v := .ty t) hl hm2 hv rfl hn hd) (.ty t) (.inl ⟨ht, rfl⟩) hg O.blt.isinstance he he2
theorem g_isM (O : Okc X W) {C : Addr} (h : Snd X W a m) (hC : MachAt (ctx X) C) (hl : Gl X "Machine" := by rfl) (hg : Gl X "isinstance" := by rfl)
    (he : starEach [a, .Name "Machine" p2] X.env = [(false, eval a X.env), (false, eval (.Name "Machine" p2) X.env)] := by rfl) (he2 : starEach [.Name "Machine" p2] X.env = [(false, eval (.Name "Machine" p2) X.env)] := by rfl) :
    Snd X W (.Call (.Name "isinstance" p) [a, .Name "Machine" p2] [] pos) (.isi m "Machine") :=
  s_isi O.mach h (pe_glob (v := .ref C) hl hC.mg rfl (by decide)) (.own C) (.inr ⟨rfl, C, hC, rfl⟩) hg O.blt.isinstance he he2
theorem g_join {o : Expr} {mo : ME} {apos : Pos} (ho : Snd X W o mo) (he : Snd X W e m) (hs : starEach [e] X.env = [(false, eval e X.env)] := by rfl) (hb : attributeBase o "join" X.env (eval o X.env) = eval o X.env := by rfl) (hl : (apos.endLine == pos.line) = true := by rfl) :
    Snd X W (.Call (.Attribute o "join" apos) [e] [] pos) (.join mo m) := s_join ho he hs hb hl
theorem g_get (O : Okc X W) {o y z : Expr} {mo mk mx : ME} {apos cpos : Pos} (ho : Snd X W o mo) (hk : Snd X W y mk) (hx : Snd X W z mx) (h1 : attributeBase o "get" X.env (eval o X.env) = eval o X.env := by rfl)
    (h2 : ((backTo cpos (starEach [y, z] X.env)).all (fun x => !x.1) && (backToKw cpos (keywordEach [] X.env)).all (fun x => x.1.isSome)
    && decide (([y, z] : List Expr).length + ([] : List Keyword).length + (if ([] : List Keyword).isEmpty then 0 else 1) < 30)) = true := by rfl) (h3 : (apos.endLine == cpos.line) = true := by rfl) (h4 : backTo cpos (starEach [y, z] X.env) = [(false, eval y X.env), (false, eval z X.env)] := by rfl) :
    Snd X W (.Call (.Attribute o "get" apos) [y, z] [] cpos) (.get mo mk mx) := s_get O.hu ho hk hx ⟨h1, h2, h3, h4⟩
theorem g_kv {k v : Expr} {ks : List (Option Expr)} {vs : List Expr} {s : List Nat} {z : Int} {ss : List (List Nat)} {is : List Int} (hk : Snd X W k (.cst (.str s))) (hv : Snd X W v (.cst (.int z))) (t : KVs X pos ks vs ss is)
    (h1 : PE X k (tC (.str ⟨s.toArray⟩)) := by exact pe_str) (h2 : PE X v (tC (.int z)) := by first | exact pe_int | exact pe_un un_neg pe_int) : KVs X pos (some k :: ks) (v :: vs) (s :: ss) (z :: is) := .cons h1 h2 t
theorem pe_strc (l : List Nat) (h : x = ⟨l.toArray⟩ := by rfl) : PE X (.Constant (.str x) j pos) (tC (.str ⟨l.toArray⟩)) := by
  subst h
  exact pe_str
theorem pe_neg {z : Int} : PE X (.UnaryOp .USub (.Constant (.int z) j p) pos) (tC (.int (-z))) := PE.mono (pe_un un_neg pe_int) fun σ H Q q => ⟨z, rfl, q⟩
theorem g_dsel (O : Okc X W) {ks : List (Option Expr)} {vs : List Expr} {ss : List (List Nat)} {is : List Int} (h : KVs X p ks vs ss is) (he : Snd X W e m) (h0 : ks ≠ [] := by exact List.cons_ne_nil _ _) (h15 : ks.length ≤ 15 := by decide) (hnd : ss.Nodup := by decide) (hn : NoSl e := by intro _ _; rfl) :
    Snd X W (.Subscript (.Dict ks vs p) e pos) (.dsel ss is m) := s_dsel O.hu h h0 h15 hnd he hn
/-! lists -/
theorem g_l1 {es : List Expr} {ms : List ME} (h : Snd X W e m) (t : SndL X W es ms) (hs : starEach (e :: es) X.env = (false, eval e X.env) :: starEach es X.env := by rfl) : SndL X W (e :: es) (m :: ms) := .cons h hs t
theorem g_and {es : List Expr} {ms : List ME} (h : SndL X W es ms) (hn : ms ≠ [] := by exact List.cons_ne_nil _ _) : Snd X W (.BoolOp .And es pos) (.and ms) := s_and h hn
theorem g_or {es : List Expr} {ms : List ME} (h : SndL X W es ms) (hn : ms ≠ [] := by exact List.cons_ne_nil _ _) : Snd X W (.BoolOp .Or es pos) (.or ms) := s_or h hn
theorem g_tup {es : List Expr} {ms : List ME} (h : SndL X W es ms) (hl : ms.length ≤ 16777216 := by exact Nat.le_of_ble_eq_true rfl) : Snd X W (.Tuple es k pos) (.tup ms) := s_tup h (by rw [sizeLine_eq]; exact hl)
theorem g_lst {es : List Expr} {ms : List ME} (h : SndL X W es ms) (hl : ms.length ≤ 16777216 := by exact Nat.le_of_ble_eq_true rfl) : SndF X W (.List es pos) (.lst ms) := s_lst h (by rw [sizeLine_eq]; exact hl)
/-! comprehensions -/
structure SndIf (X : Cx) (ifs : List Expr) (ms : List ME) : Prop where
  pt : PTs X ifs (tvG (ctx X) W0 dI (evIfs ms))
theorem g_if0 : SndIf X [] [] := ⟨⟨fun pins s σ H Q I ⟨F, ρ, Hf, r, p⟩ => pts_nil.run pins s σ H Q I (p true H Hf r (Same.refl _) rfl)⟩⟩
theorem g_if1 (h : Snd X W0 e m) : SndIf X [e] [m] := ⟨⟨fun pins s σ H Q I q => (pts_one h.pt).run pins s σ H Q I q⟩⟩
/-- a target -/
structure SndT (X : Cx) (e : Expr) (t : Tg) : Prop where
  pg : PG X e (gT (ctx X) t)
structure SndTs (X : Cx) (es : List Expr) (l : List Nat) : Prop where
  pgs : PGs X es (gNs l)
theorem g_t (hN : X.N.Nodup) (hi : X.N[i]? = some x := by rfl) (hx : Loc X.env.scope x := by first | exact .inl rfl | exact .inr rfl) (hf : X.fn x = true ∨ X.env.scope.names.lookup x = some .local := by first | exact .inl rfl | exact .inr rfl) : SndT X (.Name x pos) (.nm i) := ⟨pg_name hN hi hx hf⟩
theorem g_t0 : SndTs X [] [] := ⟨pgs_nil⟩
theorem g_t1 {es : List Expr} {l : List Nat} (hN : X.N.Nodup) (t : SndTs X es l) (hi : X.N[i]? = some x := by rfl) (hx : Loc X.env.scope x := by first | exact .inl rfl | exact .inr rfl) (hf : X.fn x = true ∨ X.env.scope.names.lookup x = some .local := by first | exact .inl rfl | exact .inr rfl) 
    (hs : (assignEach (.Name x pos :: es) X.env).map (·.2) = assign (.Name x pos) X.env :: (assignEach es X.env).map (·.2) := by rfl) : SndTs X (.Name x pos :: es) (i :: l) := ⟨pgs_cons (pg_name hN hi hx hf) t.pgs hs⟩
theorem g_tt {es : List Expr} {l : List Nat} (t : SndTs X es l) (hc : X.calm = true := by rfl) (hn : (assignEach es X.env).length = l.length := by rfl) (hst : (assignEach es X.env).findIdx? (·.1) = none := by rfl) : SndT X (.Tuple es k pos) (.tp l) := ⟨pg_tup hc t.pgs hn hst⟩
structure SndI (X : Cx) (W : WX) (tg iter : Expr) (k : IK) (ms : List ME) : Prop where
  pi : PI X tg iter (iX (ctx X) W k ms)
variable {tg iter : Expr}
theorem g_seq (h : Snd X W e m) : SndI X W tg e .seq [m] := ⟨i_seq h⟩
theorem g_rng1 (O : Okc X W) (h : Snd X W e m) (hg : Gl X "range" := by rfl) (hs : starEach [e] X.env = [(false, eval e X.env)] := by rfl) : SndI X W tg (.Call (.Name "range" p) [e] [] pos) .rng1 [m] := ⟨i_rng1 (.cons h hs .nil) hg O.blt.range hs⟩
theorem g_rng2 (O : Okc X W) (ha : Snd X W a ma) (hb : Snd X W b mb) (hg : Gl X "range" := by rfl) (hs : starEach [a, b] X.env = [(false, eval a X.env), (false, eval b X.env)] := by rfl) (hs2 : starEach [b] X.env = [(false, eval b X.env)] := by rfl) : SndI X W tg (.Call (.Name "range" p) [a, b] [] pos) .rng2 [ma, mb] :=
  ⟨i_rng2 (.cons ha (by rw [hs, hs2]) (.cons hb hs2 .nil)) hg O.blt.range hs hs2⟩
theorem g_zip (O : Okc X W) {elts : List Expr} {kk : Nat} {tpos : Pos} (ha : Snd X W a ma) (hb : Snd X W b mb) (hg : Gl X "zip" := by rfl) (hs : starEach [a, b] X.env = (false, eval a X.env) :: starEach [b] X.env := by rfl) (hs2 : starEach [b] X.env = [(false, eval b X.env)] := by rfl) (hpl : (backTo pos (starEach [b] X.env)).any (·.1) = false := by rfl) :
    SndI X W (.Tuple elts kk tpos) (.Call (.Name "zip" p) [a, b] [] pos) .zip [ma, mb] := ⟨i_zip (.cons ha hs (.cons hb hs2 .nil)) hg O.blt.zip hs hpl⟩
theorem g_enum (O : Okc X W) {elts : List Expr} {kk : Nat} {tpos : Pos} (h : Snd X W e m) (hg : Gl X "enumerate" := by rfl) (hs : starEach [e] X.env = [(false, eval e X.env)] := by rfl) :
    SndI X W (.Tuple elts kk tpos) (.Call (.Name "enumerate" p) [e] [] pos) .enum [m] := ⟨i_enum (.cons h hs .nil) hg O.blt.enumerate hs⟩
theorem g_comp {elt : Expr} {ifs : List Expr} {scope : Scope} (own : List (Str × Nat)) {ik : IK} {ms mifs : List ME} {t : Tg} (O : Okc X W) (hi : SndI X W tg iter ik ms)
    (hg : ∀ (s : Shared) (H : Hp) (C : Addr) (cl : List (Str × Addr)) (fp : List Addr), SndT (X.blk s H scope (compEnvC scope cl C X.env) fp) tg t)
    (ht : ∀ (s : Shared) (H : Hp) (C : Addr) (cl : List (Str × Addr)) (fp : List Addr), Okc (X.blk s H scope (compEnvC scope cl C X.env) fp) W0 → SndIf (X.blk s H scope (compEnvC scope cl C X.env) fp) ifs mifs)
    (he : ∀ (s : Shared) (H : Hp) (C : Addr) (cl : List (Str × Addr)) (fp : List Addr), Okc (X.blk s H scope (compEnvC scope cl C X.env) fp) W0 → Snd (X.blk s H scope (compEnvC scope cl C X.env) fp) W0 elt m)
    (ho : ∀ i ∈ tgIdx t, i ∈ own.map (·.2) := by decide) (ok : blkC X.N X.env.scope scope own = true := by rfl) (hs : ∀ x, foldedSetIterable iter X.env x = pure x := by intro _; rfl) :
    SndF X W (.ListComp elt [⟨tg, iter, ifs, 0⟩] scope pos) (.comp m t ik ms mifs (own.map (·.2))) :=
  ⟨PE.mono (pe_lc O.calm O.nd hi.pi (blkOk_by ok) (fun s H C cl fp => (hg s H C cl fp).pg) (fun s H C cl fp => (ht s H C cl fp (O.blk s H scope _ fp)).pt) (fun s H C cl fp => (he s H C cl fp (O.blk s H scope _ fp)).pe) hs) fun σ H Q q => lc_wish ho q⟩
theorem g_lcS {y : Str} {py spos : Pos} {elt : Expr} {ifs : List Expr} {scope : Scope} (own : List (Str × Nat)) {ik : IK} {ms mifs : List ME} {t : Tg} (O : Okc X W) (hi : SndI X W tg iter ik ms)
    (hg : ∀ (s : Shared) (H : Hp) (C : Addr) (cl : List (Str × Addr)) (fp : List Addr), SndT (X.blk s H scope (compEnvC scope cl C X.env) fp) tg t)
    (ht : ∀ (s : Shared) (H : Hp) (C : Addr) (cl : List (Str × Addr)) (fp : List Addr), Okc (X.blk s H scope (compEnvC scope cl C X.env) fp) W0 → SndIf (X.blk s H scope (compEnvC scope cl C X.env) fp) ifs mifs)
    (he : ∀ (s : Shared) (H : Hp) (C : Addr) (cl : List (Str × Addr)) (fp : List Addr), Okc (X.blk s H scope (compEnvC scope cl C X.env) fp) W0 → Snd (X.blk s H scope (compEnvC scope cl C X.env) fp) W0 elt m)
    (ho : ∀ i ∈ tgIdx t, i ∈ own.map (·.2) := by decide) (ok : blkC X.N X.env.scope scope own = true := by rfl) (hs : ∀ x, foldedSetIterable iter X.env x = pure x := by intro _; rfl)
    (hy : X.N[i]? = some y := by rfl) (hyl : X.env.scope.names.lookup y = some .local := by rfl) (hk : X.env.scope.kind = .function := by rfl) (hl : (py.line == pos.line) = true := by rfl)
    (ha : (scope.names.any fun (n, k) => n == y && (k == .local || k == .cell)) = false := by rfl) :
    SndLc X W (.Assign [.Name y py] (.ListComp elt [⟨tg, iter, ifs, 0⟩] scope pos) spos) i (.comp m t ik ms mifs (own.map (·.2))) :=
  ⟨_, ps_setLc O.calm O.nd hy hyl (sw_true hk hyl hl ha) hi.pi (blkOk_by ok) (fun s H C cl fp => (hg s H C cl fp).pg) (fun s H C cl fp => (ht s H C cl fp (O.blk s H scope _ fp)).pt) (fun s H C cl fp => (he s H C cl fp (O.blk s H scope _ fp)).pe) hs, fun σ H Q q => lc_wish ho q⟩
/-! calls -/
theorem g_call {f : FnE} {es : List Expr} {ms : List ME} (O : Okc X W) (F : FnAt X x f) (ha : SndA X W f.ks (e :: es) ms) (hfr : f.fresh = false := by rfl) (hg : Gl X x := by rfl) (hdb : (x == ("__debug__" : Str)) = false := by decide) (he : starEach (e :: es) X.env = (false, eval e X.env) :: starEach es X.env := by rfl) (hpl : (backTo pos (starEach es X.env)).any (·.1) = false := by rfl) :
    Snd X W (.Call (.Name x p) (e :: es) [] pos) (.call f ms) := s_call hfr O.tk F ha hg hdb he hpl
theorem g_callF {f : FnE} {es : List Expr} {ms : List ME} (O : Okc X W) (F : FnAt X x f) (ha : SndA X W f.ks (e :: es) ms) (hfr : f.fresh = true := by rfl) (hg : Gl X x := by rfl) (hdb : (x == ("__debug__" : Str)) = false := by decide) (he : starEach (e :: es) X.env = (false, eval e X.env) :: starEach es X.env := by rfl) (hpl : (backTo pos (starEach es X.env)).any (·.1) = false := by rfl) :
    SndF X W (.Call (.Name x p) (e :: es) [] pos) (.call f ms) := s_callF hfr O.tk F ha hg hdb he hpl
theorem g_ai {ks : List PK} {es : List Expr} {ms : List ME} (h : Snd X W e m) (t : SndA X W ks es ms) (hs : starEach (e :: es) X.env = (false, eval e X.env) :: starEach es X.env := by rfl) : SndA X W (.im :: ks) (e :: es) (m :: ms) := sa_cons (sa_im h) t hs
theorem g_ar {kk : PK} {ks : List PK} {es : List Expr} {ms : List ME} (h : Snd X W e (.var i)) (t : SndA X W ks es ms) (hk : kk ≠ .im := by decide) (hs : starEach (e :: es) X.env = (false, eval e X.env) :: starEach es X.env := by rfl) : SndA X W (kk :: ks) (e :: es) (.var i :: ms) := sa_cons (sa_ref hk h) t hs
/-! statements -/
theorem g_asg {t : Tg} (h : Snd X W e m) (hg : SndT X tg t) (hs : swapsWithSole [tg] e pos.line X.env = pure false := by rfl) (hw : swappedStores [tg] e X.env = pure none := by rfl) (h1 : (assignEach [tg] X.env).map (·.2) = [assign tg X.env] := by rfl) : SndS X W fr n (.Assign [tg] e pos) (.asg t m) := ss_asg h hg.pg hs hw h1
theorem g_asgF (h : SndF X W e m) (hg : SndT X tg (.nm i)) (hs : swapsWithSole [tg] e pos.line X.env = pure false := by rfl) (hw : swappedStores [tg] e X.env = pure none := by rfl) (h1 : (assignEach [tg] X.env).map (·.2) = [assign tg X.env] := by rfl) : SndS X W fr n (.Assign [tg] e pos) (.asgF i m) := ss_asgF h hg.pg hs hw h1
theorem g_exp (h : Snd X W e m) (hs : swapsWith e none pos.line X.env = pure false := by rfl) : SndS X W fr n (.Expr e pos) (.exp m) := ss_exp h hs
theorem g_for {t : Tg} {ik : IK} {ms : List ME} {sb : List Stmt} {mb : List MS} (O : Okc X W) (hp : PassesOwn (model X.prog X.w) X.A X.env X.xe) (hi : SndI X W tg iter ik ms) (hg : SndT X tg t) (hb : SndB X W fr n sb mb) (hs : ∀ x, foldedSetIterable iter X.env x = pure x := by intro _; rfl) :
    SndS X W fr n (.For tg iter sb [] pos) (.for t ik ms mb) := ss_for hp O.calm hi.pi hg.pg hb hs
theorem g_app {o : Expr} {apos cpos : Pos} (ho : Snd X W o (.var i)) (h : Snd X W e m)
    (hb : attributeBase o "append" X.env (eval o X.env) = eval o X.env := by rfl)
    (hfew : ((backTo cpos (starEach (e :: []) X.env)).all (fun x => !x.1) && (backToKw cpos (keywordEach [] X.env)).all (fun x => x.1.isSome)
      && decide ((e :: []).length + ([] : List Keyword).length + (if ([] : List Keyword).isEmpty then 0 else 1) < 30)) = true := by rfl)
    (hline : (apos.endLine == cpos.line) = true := by rfl) (hs : starEach (e :: []) X.env = (false, eval e X.env) :: starEach [] X.env := by rfl) (hplain : (backTo cpos (starEach [] X.env)).any (·.1) = false := by rfl)
    (hsw : swapsWith (.Call (.Attribute o "append" apos) [e] [] cpos) none pos.line X.env = pure false := by rfl) : SndS X W fr n (.Expr (.Call (.Attribute o "append" apos) [e] [] cpos) pos) (.app i m) := ss_app ho h hb hfew hline hs hplain hsw
theorem g_setI {o y : Expr} {mk : ME} (ho : Snd X W o (.var i)) (hk : Snd X W y mk) (h : Snd X W e m)
    (ha : ∀ v, assign (.Subscript o y p3) X.env v = (do
      let ov ← holding [v] (eval o X.env)
      let iv ← holding [v, ov] (eval y X.env)
      standAt p3
      holding [v, ov, iv] (setItem ov iv v)
      release [v, ov, iv] []) := by intro _; rfl)
    (hs : swapsWithSole [.Subscript o y p3] e pos.line X.env = pure false := by rfl) (hw : swappedStores [.Subscript o y p3] e X.env = pure none := by rfl) (h1 : (assignEach [.Subscript o y p3] X.env).map (·.2) = [assign (.Subscript o y p3) X.env] := by rfl) :
    SndS X W fr n (.Assign [.Subscript o y p3] e pos) (.setI i mk m) := ss_setI ho hk h ha hs hw h1
theorem g_rai {nm : String} {msg : Str} (O : Okc X W) (h : ExcAt X (Str.ofString nm)) (hg : Gl X (Str.ofString nm) := by rfl) (hdb : ((Str.ofString nm) == ("__debug__" : Str)) = false := by decide) :
    SndS X W fr n (.Raise (some (.Call (.Name (Str.ofString nm) p) [.Constant (.str msg) j p2] [] pos)) none pos2) (.rai nm) := ss_rai O.calm O.tk h hg hdb
end
end NV
namespace NV
open PySem PySem.Spec PyProof.Rows L2
/-- the module's facts -/
structure Bas (K : PySem.W.Frag) (mg : Str → Option Value) : Prop where
  blt : Blt mg
  mach : ∀ P w, MachOk ⟨P, w, K, mg⟩
  cls : ∀ P w, ClsOk ⟨P, w, K, mg⟩
structure ExcG (K : PySem.W.Frag) (mg : Str → Option Value) (n : Str) : Prop where
  ex : ∃ (C : Addr) (B newId initId : String) (bmB : List Value), ExcBaseFacts B newId initId bmB ∧ PySem.W.excIn K C bmB newId = true ∧ mg n = some (.ref C) ∧ PySem.W.keepIn K (.ref C) = true ∧
    PySem.W.subIn K (.ref C) (.type "BaseException") = some true ∧ PySem.W.typeIn K (.ref C) = some (.type "type")
theorem ExcG.at {X : Cx} {n : Str} (h : ExcG X.K X.mg n) : ExcAt X n := ⟨h.ex⟩
section
variable {P : Program} {w : World} {K : PySem.W.Frag} {mg : Str → Option Value} {base : Heap}
theorem okF {N : List Str} {qual : Str} {sc : Scope} {f : Addr} {cd : Value} {A : Around} {outer : List Env} {s : Shared} {H : Hp} {E : XK} {k : Nat} (B : Bas K mg) (hN : N.Nodup) (hr : Room k (A.deeper (envOfC qual sc s.heap.objs.size f cd))) :
    Okc (cxF P w K mg base N qual sc f cd A outer s H E) (fun cls d _ H => E cls d H) :=
  ⟨by have := hr.un; show (A.deeper (envOfC qual sc s.heap.objs.size f cd)).units + 65 < cLine; omega, takesF, B.blt, B.mach P w, B.cls P w, rfl, hN⟩
/-- a def of the text, whole -/
theorem fn_g {x : Str} {st : Stmt} {f : Addr} {fd : FuncData} {N ps : List Str} {k n : Nat} {ks : List PK} {fr : Bool} {ms : List MS} (B : Bas K mg) (F : L2.Fun K x x st f fd) (hm : mg x = some (.ref f)) (hb : Binds K fd ps []) (S : FnScope N ps (defScope st)) (hps : ks.length = ps.length)
    (b : ∀ (cdv : Value) (A : Around) (outer : List Env) (s : Shared) (H : Hp) (E : XK), Room k (A.deeper (envOfC x (defScope st) s.heap.objs.size f cdv)) → Okc (cxF P w K mg base N x (defScope st) f cdv A outer s H E) (fun cls d _ H => E cls d H) →
      SndB (cxF P w K mg base N x (defScope st) f cdv A outer s H E) (fun cls d _ H => E cls d H) fr n (defBody st) ms) : FnG P w K mg base (k + 1) x ⟨ks, fr, runF ks N.length fr n ms⟩ :=
  ⟨f, fd, ps, hm, fn_ok F S hps (fun ds _ => .inr rfl) fun cdv A outer s H E hr => b cdv A outer s H E hr (okF B S.nd hr), F.kp, hb⟩
end
end NV

/-! NV.T: list.count; an exception that is handled. -/
namespace NV
open PySem PySem.Spec PyProof.Rows L2

/-! ### list.count -/
def rCountD (K : PySem.W.Frag) : V → List V → Hp → VK → Prop := fun x xs H Q => ∃ (a : Addr) (y : V) (d : PyData) (ds : List PyData), x = V.ref a ∧ xs = [y] ∧ Dp K H (V.ref a) (.list ds) ∧ Dp K H y d ∧
  SeqAt.shaped (.list ds) = true ∧ SeqAt.shaped d = true ∧ Q (.int ((ds.countP fun z => PyData.eqv z d : Nat))) H
theorem mt_countD {X : Cx} (hu : X.A.units + 65 < cLine) : MtR X "list.count" (rCountD X.K) := by
  intro pins s σ H x xs v us Q I rx rxs h
  obtain ⟨a, y, d, ds, rfl, rfl, hl, hy, sl, sd, q⟩ := h
  cases rx
  cases rxs with
  | cons ry rt =>
    rename_i uy ut
    cases rt
    obtain ⟨bs, r1⟩ := Dp.reads I d y uy hy ry
    have hxs : PyData.canLayAll0 ds = true := SeqAt.canLay_of_shaped sl
    have hroom : X.A.units + 1 + min (PyData.depthAll ds) d.depth < cLine := room_in_shaped sd hu
    cases hl with
    | lst hs ha =>
      obtain ⟨its, rv, ⟨⟨cls, dd, data, sls⟩, n, ho, hc, hdn, hdt⟩, hlen⟩ := I.list hs
      simp only at hc hdt
      subst hc hdt
      obtain ⟨as, h4⟩ := Dp.readsAll I ds _ its ha rv
      have hmap : its.map (SeqAt.readOf s.heap) = ds := SeqAt.readsAll_map ds its as hxs h4
      refine call_meets PySem.F.slot_list_count ⟨_, ho, rfl⟩ PySem.F.entry_list_count (PySem.F.args_list_count_2 _ _)
        (SeqAt.list_countAt a its.toArray n dd sls uy (fun u => PyData.eqv (SeqAt.readOf s.heap u) d)) ⟨ho, SeqAt.items_eqAt (vs := its.toArray) h4 r1 hxs (SeqAt.canLay_of_shaped sd) hroom, ?_⟩
      have e : its.toArray.toList.countP (fun u => PyData.eqv (SeqAt.readOf s.heap u) d) = ds.countP fun z => PyData.eqv z d := by
        rw [← hmap, List.countP_map]
        rfl
      rw [e]
      exact ⟨.int _, H, I.tok _, ⟨_, rfl⟩, q⟩
theorem py_count : ∀ {l : List D} {x : D}, D.depL l ≤ 60 → x.dep ≤ 60 → ((pyL l).countP fun z => PyData.eqv z (py x)) = l.countP fun y => eqD y x
  | [], x, _, _ => rfl
  | y :: l, x, h, hx => by
    have h : max y.dep (D.depL l) ≤ 60 := by simpa [D.depL] using h
    simp only [pyL, List.countP_cons]
    rw [py_eqv y x (by omega) (by omega), py_count (by omega) hx]
section
variable {X : Cx} {W : WX} {e o te : Expr} {m mo mx : ME} {pos p apos cpos : Pos}
theorem s_cnt (hu : X.A.units + 65 < cLine) (ho : Snd X W o mo) (hx : Snd X W e mx) (hbase : attributeBase o "count" X.env (eval o X.env) = eval o X.env)
    (hfew : ((backTo cpos (starEach (e :: []) X.env)).all (fun x => !x.1) && (backToKw cpos (keywordEach [] X.env)).all (fun x => x.1.isSome)
      && decide ((e :: []).length + ([] : List Keyword).length + (if ([] : List Keyword).isEmpty then 0 else 1) < 30)) = true)
    (hline : (apos.endLine == cpos.line) = true) (hs : starEach (e :: []) X.env = (false, eval e X.env) :: starEach [] X.env) (hplain : (backTo cpos (starEach [] X.env)).any (·.1) = false) :
    Snd X W (.Call (.Attribute o "count" apos) [e] [] cpos) (.cnt mo mx) := by
  refine Snd.of (PE.mono (pe_bm PySem.F.plainAttrs_list PySem.F.slot_list_count PySem.F.type_list_count (mt_countD hu) ho.pp (pa_cons hx.pp pa_nil hs) hbase hfew hline hs hplain) fun σ H Q ⟨F, ρ, Hf, r, p⟩ => ?_) (fun i z => nomatch z) (fun _ => rfl)
  refine step (dnS := dP (ctx X) mo) (f := fun y => match fin mo y.1 y.2 with
    | some (.lst _) => (pre mx (ev mx) y.2).bind fun z => match fin mo y.1 z.2, fin mx z.1 z.2 with
      | some (.lst l), some d => if d.dep ≤ 60 ∧ D.depL l ≤ 60 then .ok (NV.D.int (l.countP fun u => eqD u d : Nat), z.2) else .stuck
      | _, _ => .stuck
    | _ => .stuck) r p fun o1 ρ1 v H1 Hf1 r1 s1 dn1 p1 => ?_
  dsimp only at p1
  cases q1 : fin mo o1 ρ1 with
  | none => rw [q1] at p1; exact p1.elim
  | some d1 =>
    rw [q1] at p1
    cases d1 with
    | lst l1 =>
      dsimp only at p1
      obtain ⟨a, vs, rfl, h1, h2⟩ := (show Top (ctx X) Hf1 H1 (.lst l1) v from top_fin r1 (Same.refl _) dn1 q1)
      refine ⟨.inl ⟨rfl, vs, SqL.of h1⟩, ?_⟩
      refine step (dnS := dP (ctx X) mx) (f := fun z => match fin mo o1 z.2, fin mx z.1 z.2 with
        | some (.lst l), some d => if d.dep ≤ 60 ∧ D.depL l ≤ 60 then .ok (NV.D.int (l.countP fun u => eqD u d : Nat), z.2) else .stuck
        | _, _ => .stuck) r1 p1 fun o2 ρ2 x H2 Hf2 r2 s2 dn2 p2 => ?_
      dsimp only at p2
      split at p2
      · rename_i l d e1 e2
        split at p2
        · rename_i hz
          have t1 := top_fin r2 s2 dn1 e1
          have t2 := top_fin r2 (Same.refl _) dn2 e2
          obtain ⟨w1, w2⟩ := top_dp r2 (d := .lst l) (by simp only [D.dep]; omega) t1
          obtain ⟨w3, w4⟩ := top_dp r2 (d := d) (by omega) t2
          refine ⟨a, x, py d, pyL l, rfl, rfl, w1, w3, w2, w4, ?_⟩
          rw [py_count hz.2 hz.1]
          exact p2 _ H2 Hf2 r2 (Same.refl _) rfl
        · exact p2.elim
      · exact p2.elim
    | _ => exact p1.elim
/-! ### isinstance of the exception that is handled -/
theorem call_isP {a D : Addr} {oe : Obj} (hp : (a, oe) ∈ X.pn) (C : ExcC X.K D) (hz : Zc (.ref D) none oe) (hf : ∃ vs, oe.data = .fields vs) : CallR X (.builtin "isinstance") (rIsE X.K D a) := by
  intro pins s σ H xs us Q I r h
  obtain ⟨c, cv, b, rfl, hcv, e, q⟩ := h
  cases r with
  | cons rx rr =>
    cases rr with
    | cons rt rr =>
      cases rr
      cases rx
      have ec := hcv _ rt
      subst ec
      obtain ⟨hget, _⟩ := I.pin (a, oe) (List.mem_append_left _ hp)
      obtain ⟨vs, hv⟩ := hf
      have J : PySem.W.InstAt s.heap a oe D none := by
        obtain ⟨oc, od, oda, osl⟩ := oe
        obtain ⟨h1, h2⟩ := hz
        dsimp only at h1 h2 hv
        subst h1 h2 hv
        exact ⟨hget, rfl, rfl, trivial⟩
      exact PySem.W.kia_one (PySem.W.handS_kitx_exc C.hg C.hk C.hs C.hd C.ha C.hn C.ht C.hm) I.kIn J e (fun z => nomatch z) fun tk => ⟨.bl b, H, I.kept (t' := tk) fun _ _ z => z, rfl, q⟩
theorem s_isx {a D : Addr} {oe : Obj} {cv : V} {cu : Value} {b : Bool} (hp : (a, oe) ∈ X.pn) (C : ExcC X.K D) (hz : Zc (.ref D) none oe) (hf : ∃ vs, oe.data = .fields vs) (h : Snd X W e m) (ht : PE X te (tC cv)) (hc : ClsV cv cu) (hk : PySem.W.kitOne X.K (.ref D) cu = some b)
    (hg : Gl X "isinstance") (hm : X.mg "isinstance" = none) (he : starEach [e, te] X.env = [(false, eval e X.env), (false, eval te X.env)]) (he2 : starEach [te] X.env = [(false, eval te X.env)]) :
    Snd X W (.Call (.Name "isinstance" p) [e, te] [] pos) (.isx m fun i => if i = a then some b else none) := by
  have pa : PA X [e, te] (tCons (tv (ctx X) W (ev m)) (tCons (tC cv) tNil)) := pa_cons h.pe (pa_cons ht pa_nil (by rw [he2]; rfl)) (by rw [he, he2])
  refine Snd.of (PE.mono (pe_callB (call_isP hp C hz hf) hg hm boot_isinstance pa (by decide) (by decide) (by rw [he, he2]) (by rw [he2]; rfl)) fun σ H Q ⟨F, ρ, Hf, r, p⟩ => ?_) (fun i z => nomatch z) (fun _ => rfl)
  refine step (dnS := dE (ctx X)) (f := fun x => match x.1 with
    | .adr i => match (if i = a then some b else none) with
      | some b => .ok (NV.D.bl b, x.2)
      | none => .stuck
    | _ => .stuck) r p fun d ρ1 v H1 Hf1 r1 s1 dn1 p1 => ?_
  cases d with
  | adr i =>
    dsimp only at p1
    by_cases hi : i = a
    · subst hi
      rw [if_pos rfl] at p1
      have dn1 : v = .ref i := dn1
      subst dn1
      exact ⟨cv, cu, b, rfl, fun u ru => hc.eq ru, hk, p1 _ H1 Hf1 r1 (Same.refl _) rfl⟩
    · rw [if_neg hi] at p1; exact p1.elim
  | _ => exact p1.elim
end
end NV

/-! NV.U: a def called where an exception is handled; try .. except NestError as e: return .. -/
namespace NV
open PySem PySem.Spec PyProof.Rows L2 L2H

/-- as FnOk, where p is handled -/
structure FnP (P : Program) (w : World) (K : PySem.W.Frag) (mg : Str → Option Value) (base : Heap) (k : Nat) (f : Addr) (fd : FuncData) (ps : List Str) (p : Addr × Obj) (sp : Sp) : Prop where
  len : ∀ vs H Q E, sp vs H Q E → vs.length = ps.length
  run : ∀ (A : Around) (outer : List Env) (s : Shared) (H : Hp) (args : Args) (us : List Value) (vs : List V) (Q : VK) (E : XK), RoomH k A → Hot1 A p → PinOk outer H s p → Env0 P w K mg base A outer s H → BindsTo s fd args (ps.zip us) → Vals vs us → sp vs H Q E →
    codeAny (model P w) A (.call (.ref f) args) (CR (L2N.CX P w) outer P w H s Q E) s
abbrev cxP (P : Program) (w : World) (K : PySem.W.Frag) (mg : Str → Option Value) (base : Heap) (N : List Str) (qual : Str) (sc : Scope) (f : Addr) (cd : Value) (A : Around) (outer : List Env) (s : Shared) (H : Hp) (E : XK) (p : Addr × Obj) : Cx := cxH (L2N.CX P w) P w K mg base N qual sc f cd A outer s H E p
section
variable {P : Program} {w : World} {K : PySem.W.Frag} {mg : Str → Option Value} {base : Heap}
theorem fn_okP {x qual : Str} {st : Stmt} {f : Addr} {fd : FuncData} {N ps : List Str} {k n : Nat} {fe : FnE} {ms : List MS} {p : Addr × Obj} (F : L2.Fun K x qual st f fd) (S : FnScope N ps (defScope st)) (hps : fe.ks.length = ps.length)
    (hF : ∀ ds, ds.length = ps.length → fe.F ds = .stuck ∨ runF fe.ks N.length fe.fresh n ms ds = fe.F ds)
    (hb : ∀ (cdv : Value) (A : Around) (outer : List Env) (s : Shared) (H : Hp) (E : XK), RoomH k (A.deeper (envOfC qual (defScope st) s.heap.objs.size f cdv)) →
      SndB (cxP P w K mg base N qual (defScope st) f cdv A outer s H E p) (fun cls d _ H => E cls d H) fe.fresh n (defBody st) ms) : FnP P w K mg base (k + 1) f fd ps p (spF ⟨P, w, K, mg⟩ fe) := by
  obtain ⟨oc, od, kV, doc, pm, an, cdv, ct, osl, rfl, lk, hcd⟩ := F.ex
  have hlen : ∀ vs H Q E, spF ⟨P, w, K, mg⟩ fe vs H Q E → vs.length = ps.length := fun vs H Q E h => by
    obtain ⟨Hf, ds, _, ha, _⟩ := h
    rw [ha.len.2, hps]
  have hpl : ps.length ≤ N.length := by have := congrArg List.length S.pre; rw [List.length_take] at this; omega
  refine ⟨hlen, fun A outer s H args us vs Q E hr hot hpin e0 hb2 r hsp => ?_⟩
  have hl := hlen _ _ _ _ hsp
  have KX : K.In s.heap := e0.mod.kin.keeps fun b o e => (e0.bs b o e).1
  have lim : s.heap.NoLimit := e0.mod.nolimit.keeps fun b o e => (e0.bs b o e).1
  have hkind : ∀ y ∈ ps.zip us, (defScope st).names.lookup y.1 = some .local ∨ ((defScope st).names.lookup y.1 = some .cell ∧ ((cellsFrom (s.heap.objs.size + 1) (defScope st).names []).lookup y.1).isSome = true) := fun ⟨n, v⟩ hy => by
    rcases S.par n (List.of_mem_zip hy).1 with q | q
    · exact .inl q
    · exact .inr ⟨q, PySem.W.cellsFrom_some _ _ _ (.inl q)⟩
  refine codeAny_call_function hr.depth (KX _ _ lk) rfl S.co S.gen rfl (PySem.W.codeRec_of KX hcd) (hb2 _ _ _ _ ?_)
  refine wpAny_newFunctionEnv_cells S.kind hkind fun env he s1 x => ?_
  subst he
  refine ⟨lim.keeps x.toInCall.keep, codeAny_func ?_⟩
  have I : L2.Inv (cxP P w K mg base N qual (defScope st) f cdv A outer s H E p) [] (L2.start N vs) H s1 := inv_startH S hpin e0 hl r x
  refine wpAny_mono ((hb cdv A outer s H E (hr.deeper _)).ps.run [] s1 (L2.start N vs) H _ I (body_wish hpl hps hF hsp)) (fun fl s' hs => ?_) fun e s' hs => hs
  cases fl with
  | ret u =>
    obtain ⟨v, σ', H', J, rv, q⟩ := hs
    exact ⟨v, H', J.os, J.bare, J.base, J.hok, rv, q⟩
  | next =>
    obtain ⟨σ', H', J, q⟩ := hs
    exact ⟨.non, H', J.os, J.bare, J.base, J.hok, rfl, q⟩
  | brk =>
    obtain ⟨_, _, _, q⟩ := hs
    exact False.elim q
  | cont =>
    obtain ⟨_, _, _, q⟩ := hs
    exact False.elim q
end
section
variable {X : Cx} {W : WX} {k : Nat} {fa : Addr} {fd : FuncData} {ps : List Str} {x : Str} {q pos : Pos} {e : Expr} {es : List Expr} {p : Addr × Obj} {fe : FnE} {ms : List ME}
theorem s_callP (hfr : fe.fresh = false) (tk : L2N.Takes X W) (F : FnP X.prog X.w X.K X.mg X.base k fa fd ps p (spF (ctx X) fe)) (hr : RoomH k X.A) (hot : Hot1 X.A p) (hp : p ∈ X.pn) (hg : Gl X x) (hm : X.mg x = some (.ref fa)) (hk : PySem.W.keepIn X.K (.ref fa) = true) (hb : Binds X.K fd ps [])
    (ha : SndA X W fe.ks (e :: es) ms) (hdb : (x == ("__debug__" : Str)) = false) (he : starEach (e :: es) X.env = (false, eval e X.env) :: starEach es X.env) (hpl : (backTo pos (starEach es X.env)).any (·.1) = false) : Snd X W (.Call (.Name x q) (e :: es) [] pos) (.call fe ms) := by
  have pe : PE X (.Call (.Name x q) (e :: es) [] pos) (tCallS (spF (ctx X) fe) (L2.WE W) (tvG (ctx X) W (dA (ctx X) fe.ks ms) (evArgs fe.ks ms))) := by
    refine ⟨fun pins s σ H Q I h => ?_⟩
    refine wpAny_Call_Name_kw (ld_glob I hg hm ?_ hdb)
    refine PySem.W.callWith_K (h₀ := X.base) I.ok.mod.kin hk (thn (ha.pa.run pos pins s σ H _ I h) fun us s1 ⟨vs, H1, I1, r, q⟩ => ⟨I1.kIn, ?_⟩) he hpl
    have hl : us.length = ps.length := by rw [← r.length]; exact F.len _ _ _ _ q
    have b := hb s1 us I1.kIn (by rw [List.append_nil]; exact hl)
    rw [List.append_nil] at b
    have P1 := I1.pin p (List.mem_append_left _ hp)
    have hpin : PinOk X.stack H1 s1 p := ⟨P1.1, P1.2.1, fun hm => (List.mem_cons.mp (I1.stkSub p.1 hm)).elim P1.2.2.1 P1.2.2.2.1, P1.2.2.2.2⟩
    refine wpAny_call (codeAny_mono (F.run X.A X.stack s1 H1 ⟨us, []⟩ us vs Q _ hr hot hpin I1.env0 b r q) fun r s' hq => ?_)
    cases r with
    | error e => exact L2N.passAt tk σ pins H1 s1 e s' I1 hq
    | ok fl =>
      cases fl with
      | ret u => exact I1.after hq
      | next => exact False.elim hq
      | brk => exact False.elim hq
      | cont => exact False.elim hq
  exact Snd.of (PE.mono pe fun σ H Q q => call_wish hfr q) (fun i z => nomatch z) (fun _ => rfl)
end

/-! ### _law_alone -/
def isOf (j k : Nat) : Bool := decide (k = j) || decide (7 ≤ k)
def isT (a j k : Nat) : Nat → Option Bool := fun i => if i = a then some (isOf j k) else none
def mAlone (a j : Nat) : List MS :=
  [.asg (.nm 2) (.lst [.isx (.var 0) (isT a j 0), .isx (.var 0) (isT a j 1), .isx (.var 0) (isT a j 2), .isx (.var 0) (isT a j 3)]),
   .asg (.nm 2) (.bin .add (.var 2) (.lst [.isx (.var 0) (isT a j 4), .isx (.var 0) (isT a j 5), .isx (.var 0) (isT a j 6)])),
   .ret (.and [.cmp .eq (.cnt (.var 2) (.cst (.bl true))) (.cst (.int 1)), .idx (.var 2) (.var 1), .isx (.var 0) (isT a j 7), .isx (.var 0) (isT a j 8)])]
def fAlone (a j : Nat) : FnE := ⟨[.im, .im], false, fun ds => match ds with
  | [.adr i, .int z] => if i = a ∧ 0 ≤ z ∧ z < 7 then .ok (.bl (decide (z = j)), []) else .stuck
  | _ => .stuck⟩
theorem alone_run (a j : Nat) (hj : j < 7) (ds : List D) : (fAlone a j).F ds = .stuck ∨ runF [.im, .im] 3 false 0 (mAlone a j) ds = (fAlone a j).F ds := by
  unfold fAlone
  dsimp only
  split
  · rename_i i z
    split
    · rename_i h
      obtain ⟨rfl, h0, h7⟩ := h
      right
      have hz : z = 0 ∨ z = 1 ∨ z = 2 ∨ z = 3 ∨ z = 4 ∨ z = 5 ∨ z = 6 := by omega
      have hj' : j = 0 ∨ j = 1 ∨ j = 2 ∨ j = 3 ∨ j = 4 ∨ j = 5 ∨ j = 6 := by omega
      have ht : ∀ k, isT i j k i = some (isOf j k) := fun k => by unfold isT; rw [if_pos rfl]
      rcases hj' with rfl | rfl | rfl | rfl | rfl | rfl | rfl <;> rcases hz with rfl | rfl | rfl | rfl | rfl | rfl | rfl <;>
        simp [runF, rho0, entOf, mAlone, evSs, evS, evs, ev, evVar, ht, isOf, setT, setE, pre, fin, peek, binD, addD, szl, evAnd, D.dep, D.depL, eqD, cmpD, eqOk, idxD, ixD, opt, Out.bind, ioOuts]
    · exact .inl rfl
  · exact .inl rfl
end NV

/-! NV.V: try: .. except NestError as e: return .. -/
namespace NV
open PySem PySem.Spec PyProof.Rows L2 L2H

/-- the refusals' classes -/
structure Exs (K : PySem.W.Frag) (mg : Str → Option Value) (C : Nat → Addr) (CN : Addr) : Prop where
  at_ : ∀ j, j < 7 → mg (Str.ofString (EXN.getD j "")) = some (.ref (C j))
  nest : mg "NestError" = some (.ref CN)
  val : mg "ValueError" = none
  ec : ∀ j, j < 7 → ExcC K (C j)
  catch_ : ∀ j, j < 7 → PySem.W.exmOne K (.ref (C j)) (.ref CN) = some true
  kit : ∀ j, j < 7 → ∀ k, k < 7 → PySem.W.kitOne K (.ref (C j)) (.ref (C k)) = some (decide (k = j))
  kitN : ∀ j, j < 7 → PySem.W.kitOne K (.ref (C j)) (.ref CN) = some true
  kitV : ∀ j, j < 7 → PySem.W.kitOne K (.ref (C j)) (.type "ValueError") = some true
def mkP (i a j : Nat) : D ⊕ ME → ME
  | .inl d => .cst d
  | .inr k => .call (fAlone a j) [.var i, k]
def mkSu (i a j : Nat) : Bool → List (D ⊕ ME) → ME
  | true, ps => .tup (ps.map (mkP i a j))
  | false, [p] => mkP i a j p
  | false, _ => .cst .non
theorem part_ev {i a j : Nat} {ρ : Rho} {p : D ⊕ ME} {d : D} (hi : i < ρ.length) (h : suD ρ i j p = some d) : ev (mkP i a j p) (ρ.set i (.im (.adr a))) = .ok (d, ρ.set i (.im (.adr a))) := by
  cases p with
  | inl d' =>
    cases h
    rfl
  | inr k =>
    have h : (if isVar i k then none else match kVal ρ k with
      | some z => if 0 ≤ z ∧ z < 7 then some (NV.D.bl (decide (z = j))) else none
      | none => none) = some d := h
    by_cases hv : isVar i k = true
    · rw [if_pos hv] at h; cases h
    · rw [if_neg hv] at h
      cases q : kVal ρ k with
      | none => rw [q] at h; cases h
      | some z =>
        rw [q] at h
        dsimp only at h
        split at h
        · rename_i hz
          cases h
          have e0 : evVar (ρ.set i (.im (.adr a))) i = .ok (.adr a, ρ.set i (.im (.adr a))) := by
            unfold evVar
            rw [List.getElem?_set_self hi]
          have ek : ev k (ρ.set i (.im (.adr a))) = .ok (.int z, ρ.set i (.im (.adr a))) := by
            cases k with
            | cst d0 =>
              cases d0 <;> cases q
              rfl
            | var v =>
              have hne : i ≠ v := fun e => hv (by simp [isVar, e])
              have q : (match ρ[v]? with | some (.im d) => (match d with | .int z => some z | _ => none) | _ => none) = some z := q
              show evVar _ v = _
              unfold evVar
              rw [List.getElem?_set_ne hne]
              split at q
              · rename_i d0 e
                cases d0 <;> cases q
                rw [e]
              · cases q
            | _ => cases q
          show ((evArgs [.im, .im] [.var i, k] _).bind _) = _
          have e1 : evArgs [.im, .im] [.var i, k] (ρ.set i (.im (.adr a))) = .ok ([some (.adr a), some (.int z)], ρ.set i (.im (.adr a))) := by
            show (((evVar _ i).bind fun r => .ok (some r.1, r.2)).bind fun x => (((ev k x.2).bind fun r => .ok (some r.1, r.2)).bind fun x => (Out.ok ([], x.2)).bind fun y => .ok (x.1 :: y.1, y.2)).bind fun y => .ok (x.1 :: y.1, y.2)) = _
            rw [e0]
            simp only [Out.bind_ok]
            rw [ek]
            rfl
          rw [e1]
          simp [fAlone, refNd, finArgs, finArg, outArgs, hz]
        · cases h
theorem parts_ev {i a j : Nat} {ρ : Rho} (hi : i < ρ.length) : ∀ {ps : List (D ⊕ ME)} {ds : List D}, suDs ρ i j ps = some ds → evs (ps.map (mkP i a j)) (ρ.set i (.im (.adr a))) = .ok (ds, ρ.set i (.im (.adr a)))
  | [], ds, h => by
    cases h
    rfl
  | p :: ps, ds, h => by
    unfold suDs at h
    cases q : suD ρ i j p with
    | none => rw [q] at h; cases h
    | some d =>
      cases q2 : suDs ρ i j ps with
      | none => rw [q, q2] at h; cases h
      | some ds' =>
        rw [q, q2] at h
        cases h
        show ((ev (mkP i a j p) _).bind fun x => (evs (ps.map (mkP i a j)) x.2).bind fun y => .ok (x.1 :: y.1, y.2)) = _
        rw [part_ev hi q]
        simp only [Out.bind_ok]
        rw [parts_ev hi q2]
        rfl
theorem su_ev {i a j : Nat} {tu : Bool} {ρ : Rho} {ps : List (D ⊕ ME)} {d : D} (hi : i < ρ.length) (h : (suDs ρ i j ps).bind (suRet tu) = some d) : ev (mkSu i a j tu ps) (ρ.set i (.im (.adr a))) = .ok (d, ρ.set i (.im (.adr a))) := by
  cases q : suDs ρ i j ps with
  | none => rw [q] at h; cases h
  | some ds =>
    rw [q] at h
    have h : suRet tu ds = some d := h
    cases tu with
    | true =>
      cases h
      show ((evs (ps.map (mkP i a j)) _).bind fun x => .ok (NV.D.tup x.1, x.2)) = _
      rw [parts_ev hi q]
      rfl
    | false =>
      match ps, ds, h, q with
      | [p], [d'], h, q =>
        cases h
        unfold suDs at q
        cases q1 : suD ρ i j p with
        | none => rw [q1] at q; cases q
        | some d1 =>
          rw [q1] at q
          cases q
          exact part_ev hi q1
      | [], [d'], h, q => cases q
      | p :: p2 :: ps, [d'], h, q =>
        exfalso
        unfold suDs at q
        cases q1 : suD ρ i j p with
        | none => rw [q1] at q; cases q
        | some d1 =>
          cases q2 : suDs ρ i j (p2 :: ps) with
          | none => rw [q1, q2] at q; cases q
          | some ds2 =>
            rw [q1, q2] at q
            cases q
            unfold suDs at q2
            cases q3 : suD ρ i j p2 with
            | none => rw [q3] at q2; cases q2
            | some _ =>
              cases q4 : suDs ρ i j ps with
              | none => rw [q3, q4] at q2; cases q2
              | some _ => rw [q3, q4] at q2; cases q2
      | _, [], h, _ => cases h
      | _, _ :: _ :: _, h, _ => cases h
section
variable {X : Cx} {W : WX} {n : Nat} {C : Nat → Addr} {CN : Addr} {i : Nat} {x n' : Str} {body : List Stmt} {mb : List MS} {e : Expr} {np pos pos' rpos : Pos} {tu : Bool} {ps : List (D ⊕ ME)}
theorem exc_at {c : String} {j : Nat} (h : excIx c = some j) : j < 7 ∧ EXN.getD j "" = c := by
  unfold excIx at h
  obtain ⟨h1, h2, _⟩ := List.findIdx?_eq_some_iff_getElem.mp h
  refine ⟨h1, ?_⟩
  rw [List.getD_eq_getElem?_getD, List.getElem?_eq_getElem h1]
  simpa using h2
theorem ss_try (hs : X.stack = X.env :: X.outer) (hf : X.env.frame = some X.env.locals) (hN : X.N.Nodup) (tk : L2N.Takes X W) (hi : X.N[i]? = some n') (hln : X.env.kindOf n' = some .local) (hc : Names X x (.ref CN)) (EX : Exs X.K X.mg C CN)
    (hb : ∀ (W' : WX) (pn : List (Addr × Obj)) (xe : Value → Shared → Prop), L2N.Takes (X.tr pn xe) W' → PassesOwn (model X.prog X.w) X.A X.env xe → SndB (X.tr pn xe) W' false n body mb)
    (hsu : ∀ (a : Addr) (oe : Obj) (j : Nat) (pn : List (Addr × Obj)), j < 7 → L2N.Zn (.ref (C j)) none oe → (∃ vs, oe.data = .fields vs) → Snd (X.suite a ((a, oe) :: pn)) W0 e (mkSu i a j tu ps)) :
    SndS X W false n (.Try body [.ExceptHandler (some (.Name x np)) (some n') [.Return (some e) rpos] pos'] [] [] pos) (.tryA mb i tu ps) := by
  have h := L2N.ps_try_as (X := X) (x := x) (n := n') (c := .ref CN) (i := i) (body := body) (suite := []) (b₀ := .Return (some e) rpos) (np := np) (pos := pos) (pos' := pos') (Wout := W)
    (tb := fun W' => tvS (ctx X) W' false (evSs n mb)) (ts := fun a cls d => fun D σ H => ∃ j, j < 7 ∧ cls = .ref (C j) ∧ d = none ∧ tvS (ctx X) W0 false (evSs n [.ret (mkSu i a j tu ps)]) D σ H)
    hs hf hN hi hln hc tk (fun W' pn xe t po => (hb W' pn xe t po).ps) (fun a oe cls d pn hz hv => ?_)
  rotate_left
  · refine ⟨fun pins s σ H D I q => ?_⟩
    obtain ⟨j, hj, rfl, rfl, q⟩ := q
    exact (ss_cons (ss_ret (hsu a oe j pn hj hz hv)) ss_nil : SndB (X.suite a ((a, oe) :: pn)) W0 false n [.Return (some e) rpos] [.ret (mkSu i a j tu ps)]).ps.run pins s σ H D I q
  refine ⟨PS.mono h fun D σ H ⟨F, ρ, Hf, r, p⟩ => ?_⟩
  have p : PostS (ctx X) F W false D Hf (match evSs n mb ρ with
    | .exc c ρ' => trySuite i tu ps c ρ'
    | o => o) := p
  refine ⟨F, ρ, Hf, r, ?_⟩
  cases q : evSs n mb ρ with
  | stuck => rw [q] at p; exact p
  | ok y =>
    obtain ⟨f, ρ'⟩ := y
    rw [q] at p
    cases f with
    | nx => exact p
    | ret d => exact p
  | exc c ρ' =>
    rw [q] at p
    have p : PostS (ctx X) F W false D Hf (match excIx c, setE ρ' i .un with
      | some j, some ρ2 => match (suDs ρ' i j ps).bind (suRet tu) with
        | some d => .ok (.ret d, ρ2)
        | none => .stuck
      | _, _ => .stuck) := p
    intro σ' H' Hf' C' r' s' m'
    cases q1 : excIx c with
    | none => rw [q1] at p; exact p.elim
    | some j =>
      cases q2 : setE ρ' i .un with
      | none => rw [q1, q2] at p; exact p.elim
      | some ρ2 =>
        rw [q1, q2] at p
        dsimp only at p
        cases q3 : (suDs ρ' i j ps).bind (suRet tu) with
        | none => rw [q3] at p; exact p.elim
        | some d =>
          rw [q3] at p
          obtain ⟨hj, hcj⟩ := exc_at q1
          have hC : C' = C j := by
            have := EX.at_ j hj
            rw [hcj] at this
            have m' : X.mg (Str.ofString c) = some (.ref C') := m'
            rw [m'] at this
            cases this
            rfl
          subst hC
          refine ⟨true, EX.catch_ j hj, fun _ a ha => ⟨j, hj, rfl, rfl, ?_⟩, fun z => by cases z⟩
          obtain ⟨e2, hil, en, hen, hk⟩ := setE_some q2
          have hset : setE ρ' i (.im (.adr a)) = some (ρ'.set i (.im (.adr a))) := by
            unfold setE
            rw [hen]
            rcases hk with rfl | ⟨_, rfl⟩ | ⟨_, rfl⟩ <;> rfl
          have r2 := r'.setIm (v := .ref a) hset (show Den (ctx X) Hf' (.adr a) (.ref a) from rfl)
          refine ⟨F, _, Hf', r2, ?_⟩
          have e3 : evSs n [.ret (mkSu i a j tu ps)] (ρ'.set i (.im (.adr a))) = .ok (.ret d, ρ'.set i (.im (.adr a))) := by
            show ((((ev (mkSu i a j tu ps) _).bind fun x => .ok (.ret x.1, x.2)) : ResS).bind fun r => match r.1 with | .nx => .ok (Fl.nx, r.2) | .ret v => .ok (Fl.ret v, r.2)) = _
            rw [su_ev hil q3]
            rfl
          rw [e3]
          intro σ2 v H2 Hf2 r3 s3 dn
          have hset3 : setE (ρ'.set i (.im (.adr a))) i .un = some ρ2 := by
            unfold setE
            rw [List.getElem?_set_self hil]
            rw [e2]
            simp
          exact p (σ2.set i none) v H2 Hf2 (r3.setUn hset3) (s'.trans s3) dn
end
end NV

/-! NV.W: .. for the generator: exceptions. -/
namespace NV
open PySem PySem.Spec PyProof.Rows L2 L2H

theorem takes0N {X : Cx} : L2N.Takes X W0 := fun u s' ⟨_, _, _, _, _, _, _, _, _, _, _, _, _, _, _, _, w⟩ => w.elim
theorem Okc.tr {X : Cx} {W W' : WX} (o : Okc X W) {pn : List (Addr × Obj)} {xe : Value → Shared → Prop} (tk : L2N.Takes (X.tr pn xe) W') : Okc (X.tr pn xe) W' := ⟨o.hu, tk, o.blt, o.mach, o.cls, o.calm, o.nd⟩
structure AlG (P : Program) (w : World) (K : PySem.W.Frag) (mg : Str → Option Value) (base : Heap) (C : Nat → Addr) : Prop where
  ex : ∃ (fa : Addr) (fd : FuncData), mg "_law_alone" = some (.ref fa) ∧ PySem.W.keepIn K (.ref fa) = true ∧ Binds K fd ["_law_e", "_law_own"] [] ∧
    ∀ (j : Nat) (p : Addr × Obj), j < 7 → L2N.Zn (.ref (C j)) none p.2 → (∃ vs, p.2.data = .fields vs) → FnP P w K mg base 1 fa fd ["_law_e", "_law_own"] p (spF ⟨P, w, K, mg⟩ (fAlone p.1 j))
section
variable {X : Cx} {W : WX} {C : Nat → Addr} {CN : Addr} {e1 e2 e : Expr} {m1 m2 m : ME} {q pos p2 : Pos} {j k : Nat} {p : Addr × Obj} {nm : Str}
theorem g_alone {a : Addr} {oe : Obj} {pn : List (Addr × Obj)} {k : Nat} (AL : AlG X.prog X.w X.K X.mg X.base C) (hr : Room k X.A) (hk1 : 1 ≤ k) (hj : j < 7) (hz : L2N.Zn (.ref (C j)) none oe) (hf : ∃ vs, oe.data = .fields vs)
    (h1 : Snd (X.suite a ((a, oe) :: pn)) W0 e1 m1) (h2 : Snd (X.suite a ((a, oe) :: pn)) W0 e2 m2) (hg : Gl (X.suite a ((a, oe) :: pn)) "_law_alone" := by rfl)
    (he : starEach [e1, e2] X.env = (false, eval e1 X.env) :: starEach [e2] X.env := by rfl) (he2 : starEach [e2] X.env = (false, eval e2 X.env) :: starEach [] X.env := by rfl) (hpl : (backTo pos (starEach [e2] X.env)).any (·.1) = false := by rfl) :
    Snd (X.suite a ((a, oe) :: pn)) W0 (.Call (.Name "_law_alone" q) [e1, e2] [] pos) (.call (fAlone a j) [m1, m2]) := by
  obtain ⟨fa, fd, hm, hk, hb, hF⟩ := AL.ex
  obtain ⟨vs, hv⟩ := hf
  have hot : Hot1 (X.suite a ((a, oe) :: pn)).A (a, oe) := ⟨rfl, vs, hv, hz.2.2 vs hv⟩
  have rH : RoomH 1 (X.suite a ((a, oe) :: pn)).A := ⟨(roomH_of (hr.mono hk1)).dp, (roomH_of (hr.mono hk1)).un⟩
  exact s_callP (X := X.suite a ((a, oe) :: pn)) rfl takes0N (hF j (a, oe) hj hz ⟨vs, hv⟩) rH hot List.mem_cons_self hg hm hk hb (sa_cons (sa_im h1) (sa_cons (sa_im h2) sa_nil he2) he) (by decide) he hpl
theorem g_isx (EX : Exs X.K X.mg C CN) (hj : j < 7) (k : Nat) (hk : k < 7) (hp : p ∈ X.pn) (hz : L2N.Zn (.ref (C j)) none p.2) (hf : ∃ vs, p.2.data = .fields vs) (hm : X.mg "isinstance" = none) (h : Snd X W e m) (hn : nm = Str.ofString (EXN.getD k "") := by rfl) (hl : Gl X nm := by rfl) (hd : (nm == ("__debug__" : Str)) = false := by decide) (hg : Gl X "isinstance" := by rfl)
    (he : starEach [e, .Name nm p2] X.env = [(false, eval e X.env), (false, eval (.Name nm p2) X.env)] := by rfl) (he2 : starEach [.Name nm p2] X.env = [(false, eval (.Name nm p2) X.env)] := by rfl) :
    Snd X W (.Call (.Name "isinstance" q) [e, .Name nm p2] [] pos) (.isx m (isT p.1 j k)) := by
  have hmg : X.mg nm = some (.ref (C k)) := by rw [hn]; exact EX.at_ k hk
  have e0 : isOf j k = decide (k = j) := by
    unfold isOf
    have : ¬ 7 ≤ k := by omega
    simp [this]
  exact s_isx (a := p.1) (oe := p.2) hp (EX.ec j hj) hz.zc hf h (pe_glob (v := .ref (C k)) hl hmg rfl hd) (.own (C k)) (by rw [e0]; exact EX.kit j hj k hk) hg hm he he2
theorem g_isxN (EX : Exs X.K X.mg C CN) (hj : j < 7) (hp : p ∈ X.pn) (hz : L2N.Zn (.ref (C j)) none p.2) (hf : ∃ vs, p.2.data = .fields vs) (hm : X.mg "isinstance" = none) (h : Snd X W e m) (hl : Gl X "NestError" := by rfl) (hg : Gl X "isinstance" := by rfl)
    (he : starEach [e, .Name "NestError" p2] X.env = [(false, eval e X.env), (false, eval (.Name "NestError" p2) X.env)] := by rfl) (he2 : starEach [.Name "NestError" p2] X.env = [(false, eval (.Name "NestError" p2) X.env)] := by rfl) :
    Snd X W (.Call (.Name "isinstance" q) [e, .Name "NestError" p2] [] pos) (.isx m (isT p.1 j 7)) := by
  have e0 : isOf j 7 = true := by simp [isOf]
  exact s_isx (a := p.1) (oe := p.2) hp (EX.ec j hj) hz.zc hf h (pe_glob (v := .ref CN) hl EX.nest rfl (by decide)) (.own CN) (by rw [e0]; exact EX.kitN j hj) hg hm he he2
theorem g_isxV (EX : Exs X.K X.mg C CN) (hj : j < 7) (hp : p ∈ X.pn) (hz : L2N.Zn (.ref (C j)) none p.2) (hf : ∃ vs, p.2.data = .fields vs) (hm : X.mg "isinstance" = none) (h : Snd X W e m) (hl : Gl X "ValueError" := by rfl) (hg : Gl X "isinstance" := by rfl)
    (he : starEach [e, .Name "ValueError" p2] X.env = [(false, eval e X.env), (false, eval (.Name "ValueError" p2) X.env)] := by rfl) (he2 : starEach [.Name "ValueError" p2] X.env = [(false, eval (.Name "ValueError" p2) X.env)] := by rfl) :
    Snd X W (.Call (.Name "isinstance" q) [e, .Name "ValueError" p2] [] pos) (.isx m (isT p.1 j 8)) := by
  have e0 : isOf j 8 = true := by simp [isOf]
  exact s_isx (a := p.1) (oe := p.2) hp (EX.ec j hj) hz.zc hf h (pe_bltn (v := .ty "ValueError") (u := .type "ValueError") hl EX.val (by decide +kernel) rfl (by decide) (by decide)) (.ty "ValueError") (by rw [e0]; exact EX.kitV j hj) hg hm he he2
theorem g_cnt {o : Expr} {mo : ME} {apos cpos : Pos} (hu : X.A.units + 65 < cLine) (ho : Snd X W o mo) (hx : Snd X W e m) (hbase : attributeBase o "count" X.env (eval o X.env) = eval o X.env := by rfl)
    (hfew : ((backTo cpos (starEach (e :: []) X.env)).all (fun x => !x.1) && (backToKw cpos (keywordEach [] X.env)).all (fun x => x.1.isSome)
      && decide ((e :: []).length + ([] : List Keyword).length + (if ([] : List Keyword).isEmpty then 0 else 1) < 30)) = true := by rfl)
    (hline : (apos.endLine == cpos.line) = true := by rfl) (hs : starEach (e :: []) X.env = (false, eval e X.env) :: starEach [] X.env := by rfl) (hplain : (backTo cpos (starEach [] X.env)).any (·.1) = false := by rfl) :
    Snd X W (.Call (.Attribute o "count" apos) [e] [] cpos) (.cnt mo m) := s_cnt hu ho hx hbase hfew hline hs hplain
end
section
variable {P : Program} {w : World} {K : PySem.W.Frag} {mg : Str → Option Value} {base : Heap}
theorem takesP {N : List Str} {qual : Str} {sc : Scope} {f : Addr} {cd : Value} {A : Around} {outer : List Env} {s : Shared} {H : Hp} {E : XK} {p : Addr × Obj} : L2N.Takes (cxP P w K mg base N qual sc f cd A outer s H E p) (fun cls d _ H => E cls d H) :=
  L2N.takes_of (E₁ := fun e' s'' => L2N.CX P w outer H s E e' s'') rfl rfl rfl rfl
end
end NV

/-! NV.X: the end: what the top has written. -/
namespace NV
open PySem PySem.Spec PyProof.Rows L2 L2H

def spTop (K : PySem.W.Frag) : Sp := fun vs H Q _ => ∃ (a : Addr) (ns : List Int), vs = [.ref a] ∧ SqL K H a (ns.map V.int) ∧ ns.length ≤ 63 ∧ ∀ H', Q (.bl true) H'
section
variable {P : Program} {w : World} {K : PySem.W.Frag} {mg : Str → Option Value} {base : Heap}
theorem fn_gL {x : Str} {st : Stmt} {f : Addr} {fd : FuncData} {N ps : List Str} {k n : Nat} {ks : List PK} {fr : Bool} {ms : List MS} (B : Bas K mg) (F : L2.Fun K x x st f fd) (S : FnScope N ps (defScope st)) (hps : ks.length = ps.length)
    (b : ∀ (cdv : Value) (A : Around) (outer : List Env) (s : Shared) (H : Hp) (E : XK), Room k (A.deeper (envOfC x (defScope st) s.heap.objs.size f cdv)) → Okc (cxF P w K mg base N x (defScope st) f cdv A outer s H E) (fun cls d _ H => E cls d H) →
      SndB (cxF P w K mg base N x (defScope st) f cdv A outer s H E) (fun cls d _ H => E cls d H) fr n (defBody st) ms) : FnOk P w K mg base (L2N.CX P w) (k + 1) f fd ps (spF ⟨P, w, K, mg⟩ ⟨ks, fr, runF ks N.length fr n ms⟩) :=
  fn_ok F S hps (fun ds _ => .inr rfl) fun cdv A outer s H E hr => b cdv A outer s H E hr (okF B S.nd hr)
theorem top_ok {k : Nat} {f : Addr} {fd : FuncData} {ps : List Str} {fe : FnE} (hk : fe.ks = [.im]) (hf : fe.fresh = false) (F : FnOk P w K mg base (L2N.CX P w) k f fd ps (spF ⟨P, w, K, mg⟩ fe)) (h : ∀ ns : List Int, ns.length ≤ 63 → fe.F [.scr ns] = .ok (.bl true, [])) :
    FnOk P w K mg base (L2N.CX P w) k f fd ps (spTop K) := by
  have go : ∀ vs H Q E, spTop K vs H Q E → spF ⟨P, w, K, mg⟩ fe vs H Q E := fun vs H Q E ⟨a, ns, e, hS, hl, q⟩ => by
    subst e
    refine ⟨H, [.scr ns], Same.refl _, ?_, ?_, ?_⟩
    · rw [hk]
      exact ⟨_, _, _, _, rfl, rfl, ⟨a, rfl, hS⟩, rfl, rfl⟩
    · intro i j a k k' h1 h2 _ _ _ _
      rw [hk] at h1
      match i, h1 with
      | 0, h1 => cases h1; exact absurd rfl h2
      | i + 1, h1 => simp at h1
    · rw [h ns hl]
      intro v H' Hf' aft ho hv
      rw [if_neg (by rw [hf]; simp)] at hv
      have hv : v = .bl true := hv
      subst hv
      exact q H'
  exact ⟨fun vs H Q E h => F.len _ _ _ _ (go _ _ _ _ h), fun A outer s H args us vs Q E hr e0 hb r h => F.run A outer s H args us vs Q E hr e0 hb r (go _ _ _ _ h)⟩
theorem bas_noM (b : Blt mg) (h : mg "Machine" = none) : Bas K mg := by
  refine ⟨b, fun P w => .inl h, fun P w n C hn hm => ?_⟩
  have hn' : n = "Machine" := by
    by_cases e : n = "Machine"
    · exact e
    · exact absurd (by unfold flds; rw [if_neg e]) hn
  subst hn'
  have hm : mg (Str.ofString "Machine") = some (.ref C) := hm
  rw [show mg (Str.ofString "Machine") = none from h] at hm
  cases hm
/-- a class of refusals, as the top has written it -/
structure ExcW (K : PySem.W.Frag) (mg : Str → Option Value) (n : Str) (C : Addr) : Prop where
  at_ : mg n = some (.ref C)
  xF : PySem.W.excIn K C [.type "ValueError", .type "Exception", .type "BaseException", .type "object"] "ValueError.__new__" = true
  kF : PySem.W.keepIn K (.ref C) = true
  bF : PySem.W.subIn K (.ref C) (.type "BaseException") = some true
  tF : PySem.W.typeIn K (.ref C) = some (.type "type")
  iF : PySem.W.isClsIn K C = true
  hg : PySem.W.findIn K (.ref C) "__getattribute__" = some (some (.builtin "BaseException.__getattribute__"))
  hk : PySem.W.findIn K (.ref C) "__getattr__" = some none
  hd : PySem.W.hasDictIn K C = true
  ha : PySem.W.findIn K (.ref C) "__class__" = some (some (.builtin "object.__class__"))
  hm : PySem.W.mroIn K C (.type "object") = some true
  vE : PySem.W.subIn K (.ref C) (.type "ValueError") = some true
theorem ExcW.exc {n : Str} {C : Addr} (h : ExcW K mg n C) : ExcG K mg n := ⟨C, _, _, _, _, PySem.F.excBase_ValueError, h.xF, h.at_, h.kF, h.bF, h.tF⟩
theorem ExcW.ec {n : Str} {C : Addr} (h : ExcW K mg n C) (hn : PySem.W.specialIn K (.builtin "object.__class__") "__get__" = some (some (.builtin "getset_descriptor.__get__"))) (ht : PySem.W.takesIn K (.builtin "object.__class__") = some true) : ExcC K C := ⟨h.hg, h.hk, h.bF, h.hd, h.ha, hn, ht, h.hm⟩
theorem ExcW.cls {n : Str} {C : Addr} (h : ExcW K mg n C) {t : Value} : PySem.W.kitCls K t (.ref C) = PySem.W.subIn K t (.ref C) := by
  have h2 : (PySem.W.clsIn K C).isSome = true := h.iF
  show (if ((PySem.W.clsIn K C).isSome && PySem.W.typeIn K (.ref C) == some (.type "type")) = true then PySem.W.subIn K t (.ref C) else none) = _
  rw [h2, h.tF]
  rfl
theorem kit_of {n : Str} {C D : Addr} {b : Bool} (W : ExcW K mg n C) (h : PySem.W.subIn K (.ref D) (.ref C) = some b) (hs : PySem.W.subIn K (.ref D) (.ref D) = some true) : PySem.W.kitOne K (.ref D) (.ref C) = some b := by
  unfold PySem.W.kitOne
  by_cases e : D = C
  · subst e
    rw [h] at hs
    rw [hs]
    simp
  · have : ((Value.ref D == Value.ref C) = true) = False := by simp [e]
    rw [if_neg (by rw [this]; exact id), W.cls, h]
theorem exm_of {n : Str} {C D : Addr} (W : ExcW K mg n C) (h : PySem.W.subIn K (.ref D) (.ref C) = some true) : PySem.W.exmOne K (.ref D) (.ref C) = some true := by
  unfold PySem.W.exmOne
  rw [W.bF, if_pos (by rfl), W.cls, h]
def cAt (c0 c1 c2 c3 c4 c5 c6 : Addr) : Nat → Addr := fun j => [c0, c1, c2, c3, c4, c5, c6].getD j 0
theorem exs_mk {c0 c1 c2 c3 c4 c5 c6 CN : Addr}
    (W0 : ExcW K mg (Str.ofString "BadSigns") c0)
    (W1 : ExcW K mg (Str.ofString "BadWord") c1)
    (W2 : ExcW K mg (Str.ofString "BadMachine") c2)
    (W3 : ExcW K mg (Str.ofString "TooMany") c3)
    (W4 : ExcW K mg (Str.ofString "NotPlain") c4)
    (W5 : ExcW K mg (Str.ofString "Unlike") c5)
    (W6 : ExcW K mg (Str.ofString "NoNote") c6)
    (WN : ExcW K mg (Str.ofString "NestError") CN)
    (s00 : PySem.W.subIn K (.ref c0) (.ref c0) = some true) (s01 : PySem.W.subIn K (.ref c0) (.ref c1) = some false) (s02 : PySem.W.subIn K (.ref c0) (.ref c2) = some false) (s03 : PySem.W.subIn K (.ref c0) (.ref c3) = some false) (s04 : PySem.W.subIn K (.ref c0) (.ref c4) = some false) (s05 : PySem.W.subIn K (.ref c0) (.ref c5) = some false) (s06 : PySem.W.subIn K (.ref c0) (.ref c6) = some false)
    (s10 : PySem.W.subIn K (.ref c1) (.ref c0) = some false) (s11 : PySem.W.subIn K (.ref c1) (.ref c1) = some true) (s12 : PySem.W.subIn K (.ref c1) (.ref c2) = some false) (s13 : PySem.W.subIn K (.ref c1) (.ref c3) = some false) (s14 : PySem.W.subIn K (.ref c1) (.ref c4) = some false) (s15 : PySem.W.subIn K (.ref c1) (.ref c5) = some false) (s16 : PySem.W.subIn K (.ref c1) (.ref c6) = some false)
    (s20 : PySem.W.subIn K (.ref c2) (.ref c0) = some false) (s21 : PySem.W.subIn K (.ref c2) (.ref c1) = some false) (s22 : PySem.W.subIn K (.ref c2) (.ref c2) = some true) (s23 : PySem.W.subIn K (.ref c2) (.ref c3) = some false) (s24 : PySem.W.subIn K (.ref c2) (.ref c4) = some false) (s25 : PySem.W.subIn K (.ref c2) (.ref c5) = some false) (s26 : PySem.W.subIn K (.ref c2) (.ref c6) = some false)
    (s30 : PySem.W.subIn K (.ref c3) (.ref c0) = some false) (s31 : PySem.W.subIn K (.ref c3) (.ref c1) = some false) (s32 : PySem.W.subIn K (.ref c3) (.ref c2) = some false) (s33 : PySem.W.subIn K (.ref c3) (.ref c3) = some true) (s34 : PySem.W.subIn K (.ref c3) (.ref c4) = some false) (s35 : PySem.W.subIn K (.ref c3) (.ref c5) = some false) (s36 : PySem.W.subIn K (.ref c3) (.ref c6) = some false)
    (s40 : PySem.W.subIn K (.ref c4) (.ref c0) = some false) (s41 : PySem.W.subIn K (.ref c4) (.ref c1) = some false) (s42 : PySem.W.subIn K (.ref c4) (.ref c2) = some false) (s43 : PySem.W.subIn K (.ref c4) (.ref c3) = some false) (s44 : PySem.W.subIn K (.ref c4) (.ref c4) = some true) (s45 : PySem.W.subIn K (.ref c4) (.ref c5) = some false) (s46 : PySem.W.subIn K (.ref c4) (.ref c6) = some false)
    (s50 : PySem.W.subIn K (.ref c5) (.ref c0) = some false) (s51 : PySem.W.subIn K (.ref c5) (.ref c1) = some false) (s52 : PySem.W.subIn K (.ref c5) (.ref c2) = some false) (s53 : PySem.W.subIn K (.ref c5) (.ref c3) = some false) (s54 : PySem.W.subIn K (.ref c5) (.ref c4) = some false) (s55 : PySem.W.subIn K (.ref c5) (.ref c5) = some true) (s56 : PySem.W.subIn K (.ref c5) (.ref c6) = some false)
    (s60 : PySem.W.subIn K (.ref c6) (.ref c0) = some false) (s61 : PySem.W.subIn K (.ref c6) (.ref c1) = some false) (s62 : PySem.W.subIn K (.ref c6) (.ref c2) = some false) (s63 : PySem.W.subIn K (.ref c6) (.ref c3) = some false) (s64 : PySem.W.subIn K (.ref c6) (.ref c4) = some false) (s65 : PySem.W.subIn K (.ref c6) (.ref c5) = some false) (s66 : PySem.W.subIn K (.ref c6) (.ref c6) = some true)
    (n0 : PySem.W.subIn K (.ref c0) (.ref CN) = some true) (n1 : PySem.W.subIn K (.ref c1) (.ref CN) = some true) (n2 : PySem.W.subIn K (.ref c2) (.ref CN) = some true) (n3 : PySem.W.subIn K (.ref c3) (.ref CN) = some true) (n4 : PySem.W.subIn K (.ref c4) (.ref CN) = some true) (n5 : PySem.W.subIn K (.ref c5) (.ref CN) = some true) (n6 : PySem.W.subIn K (.ref c6) (.ref CN) = some true)
    (hn : PySem.W.specialIn K (.builtin "object.__class__") "__get__" = some (some (.builtin "getset_descriptor.__get__"))) (ht : PySem.W.takesIn K (.builtin "object.__class__") = some true) (zV : mg "ValueError" = none) : Exs K mg (cAt c0 c1 c2 c3 c4 c5 c6) CN := by
  have seven : ∀ {p : Nat → Prop}, p 0 → p 1 → p 2 → p 3 → p 4 → p 5 → p 6 → ∀ j, j < 7 → p j := fun {p} h0 h1 h2 h3 h4 h5 h6 j hj => by
    have : j = 0 ∨ j = 1 ∨ j = 2 ∨ j = 3 ∨ j = 4 ∨ j = 5 ∨ j = 6 := by omega
    rcases this with rfl | rfl | rfl | rfl | rfl | rfl | rfl <;> assumption
  refine ⟨seven W0.at_ W1.at_ W2.at_ W3.at_ W4.at_ W5.at_ W6.at_, WN.at_, zV, seven (W0.ec hn ht) (W1.ec hn ht) (W2.ec hn ht) (W3.ec hn ht) (W4.ec hn ht) (W5.ec hn ht) (W6.ec hn ht),
    seven (exm_of WN n0) (exm_of WN n1) (exm_of WN n2) (exm_of WN n3) (exm_of WN n4) (exm_of WN n5) (exm_of WN n6), ?_, seven (kit_of WN n0 s00) (kit_of WN n1 s11) (kit_of WN n2 s22) (kit_of WN n3 s33) (kit_of WN n4 s44) (kit_of WN n5 s55) (kit_of WN n6 s66), ?_⟩
  · exact seven (seven (kit_of W0 s00 s00) (kit_of W1 s01 s00) (kit_of W2 s02 s00) (kit_of W3 s03 s00) (kit_of W4 s04 s00) (kit_of W5 s05 s00) (kit_of W6 s06 s00)) (seven (kit_of W0 s10 s11) (kit_of W1 s11 s11) (kit_of W2 s12 s11) (kit_of W3 s13 s11) (kit_of W4 s14 s11) (kit_of W5 s15 s11) (kit_of W6 s16 s11)) (seven (kit_of W0 s20 s22) (kit_of W1 s21 s22) (kit_of W2 s22 s22) (kit_of W3 s23 s22) (kit_of W4 s24 s22) (kit_of W5 s25 s22) (kit_of W6 s26 s22)) (seven (kit_of W0 s30 s33) (kit_of W1 s31 s33) (kit_of W2 s32 s33) (kit_of W3 s33 s33) (kit_of W4 s34 s33) (kit_of W5 s35 s33) (kit_of W6 s36 s33)) (seven (kit_of W0 s40 s44) (kit_of W1 s41 s44) (kit_of W2 s42 s44) (kit_of W3 s43 s44) (kit_of W4 s44 s44) (kit_of W5 s45 s44) (kit_of W6 s46 s44)) (seven (kit_of W0 s50 s55) (kit_of W1 s51 s55) (kit_of W2 s52 s55) (kit_of W3 s53 s55) (kit_of W4 s54 s55) (kit_of W5 s55 s55) (kit_of W6 s56 s55)) (seven (kit_of W0 s60 s66) (kit_of W1 s61 s66) (kit_of W2 s62 s66) (kit_of W3 s63 s66) (kit_of W4 s64 s66) (kit_of W5 s65 s66) (kit_of W6 s66 s66))
  · have v : ∀ {n : Str} {C : Addr}, ExcW K mg n C → PySem.W.kitOne K (.ref C) (.type "ValueError") = some true := fun {n C} W => by
      show (if (Value.ref C == Value.type "ValueError") = true then some true else (if PySem.W.kitMeta "ValueError" = true then PySem.W.subIn K (.ref C) (.type "ValueError") else none)) = some true
      rw [if_neg (by simp), if_pos (by decide +kernel), W.vE]
    exact seven (v W0) (v W1) (v W2) (v W3) (v W4) (v W5) (v W6)
end
end NV

/-! NV.Y: objects: made, their methods, their fields set. -/
namespace NV
open PySem PySem.Spec PyProof.Rows L2

section
variable {c : Ct} {F : Fr} {ρ ρ' : Rho} {σ : St} {H Hf H' Hf' : Hp} {Mu : Addr → Prop}
/-- what is written is of no concern -/
theorem R.call0 (r : R c F ρ σ H Hf) (aft : Aft Mu H Hf H' Hf') (hM : ∀ a, Mu a → F.H0 a = none ∧ (∀ i, ¬ OwnAt ρ σ i a) ∧ F.G a = none) : R c F ρ σ H' Hf' := by
  refine ⟨r.len, aft.sub, r.subf.trans aft.same, fun a o e => ?_, fun a o e m => ?_, fun a o e e2 => ?_, fun i d e => ?_, fun i e d h1 h2 => ?_, r.dist, r.ow, r.io, r.pin, r.brL, fun b u q => ?_⟩
  · obtain ⟨o', q⟩ := r.live a o e
    exact aft.live _ _ q
  · refine aft.keep _ _ (r.keep _ _ e m) fun hm => ?_
    rw [(hM a hm).1] at e
    cases e
  · obtain ⟨o', q⟩ := r.live a o e
    exact aft.out _ _ q (r.out _ _ e e2)
  · obtain ⟨v, w1, w2⟩ := r.im i d e
    exact ⟨v, w1, Den.mono aft.same _ _ w2⟩
  · obtain ⟨a, w1, w2⟩ := r.own i e d h1 h2
    obtain ⟨o, w3⟩ := w2.there
    exact ⟨a, w1, w2.keep aft.same (aft.out _ _ w3 w2.1) fun u hu => aft.keep _ _ hu fun hm => (hM a hm).2.1 i ⟨e, d, h1, h2, w1⟩⟩
  · obtain ⟨q1, q2, q3⟩ := r.grd b u q
    refine ⟨aft.keep _ _ q1 fun hm => ?_, aft.out _ _ q1 q2, q3⟩
    rw [(hM b hm).2.2] at q
    cases q
theorem R.noG {a : Addr} (r : R c F ρ σ H Hf) (ha : H a = none) : F.G a = none := by
  cases z : F.G a with
  | none => rfl
  | some u =>
    have := (r.grd a u z).1
    rw [ha] at this
    cases this
end
theorem lookup_none {fs : List (Str × V)} {f : Str} (h : f ∉ fs.map (·.1)) : fs.lookup f = none := by
  induction fs with
  | nil => rfl
  | cons p fs ih =>
    obtain ⟨g, v⟩ := p
    have h : f ∉ g :: fs.map (·.1) := h
    rw [List.mem_cons, not_or] at h
    have : (f == g) = false := by simpa using h.1
    simp only [List.lookup_cons, this]
    exact ih h.2
theorem putF_new {f : Str} {v : V} : ∀ {fs : List (Str × V)}, f ∉ fs.map (·.1) → putF f v fs = fs ++ [(f, v)]
  | [], _ => rfl
  | (g, x) :: fs, h => by
    have h : f ∉ g :: fs.map (·.1) := h
    rw [List.mem_cons, not_or] at h
    unfold putF
    rw [if_neg (fun z => h.1 z.symm), putF_new h.2]
    rfl
theorem argsR {c : Ct} {Hf H : Hp} : ∀ {ds : List D} {vs : List V}, Dens c Hf ds vs → ArgsOk c Hf H (List.replicate ds.length .im) ds vs
  | [], vs, h => by
    cases h
    exact ⟨rfl, rfl⟩
  | d :: ds, vs, h => by
    obtain ⟨v, r, rfl, h1, h2⟩ := h
    exact ⟨d, ds, v, r, rfl, rfl, h1, argsR h2⟩

section
variable {X : Cx} {W : WX} {pos p apos : Pos} {o e value : Expr} {es : List Expr} {m : ME} {ms : List ME} {k : Nat} {x mn : Str} {C fa : Addr} {fd : FuncData} {ps : List Str} {sp : Sp} {CX : CXT} {E : St → XK} {ta : TE} {t : TA}
theorem pe_methY {pl : Sem Bool} (he : PE X o ta) (c : Cls X.K C) (hm : Meth X.K C mn fa) (F : FnOk X.prog X.w X.K X.mg X.base CX k fa fd ps sp) (hr : Room k X.A) (hb : Binds X.K fd ps []) (hx : ∀ σ, PassesAt CX X σ (E σ))
    (ht : eval (.Call (.Attribute o mn apos) [] [] pos) X.env = (do
      let ov ← eval o X.env
      standAt apos.atName
      let (f, first) ← holding [ov] (getMethod ov mn pl)
      callWith pos f first (backTo pos (starEach [] X.env)) (backToKw pos (keywordEach [] X.env)))) :
    PE X (.Call (.Attribute o mn apos) [] [] pos) (fun σ H Q => ta σ H fun x H1 => ∃ a dx fs, x = .ref a ∧ H1 a = some (.ins C dx fs) ∧ fs.lookup mn = none ∧ sp [x] H1 Q (E σ)) := by
  refine ⟨fun pins s σ H Q I h => ?_⟩
  refine PySem.W.methodCall_KW (pl := pl) (thn (he.run pins s σ H _ I h) fun u s1 ⟨x, H1, I1, rx, a, dx, fs, ex, ea, l, q⟩ => ?_) ht
  subst ex
  obtain rfl : u = Value.ref a := rx
  refine getmeth_ok I1 ea c hm l ?_
  exact PySem.W.callWith_K0 (first := [.ref a]) I1.kIn hm.kp (run_fnS (us := [.ref a]) (vs := [.ref a]) F hr hb (hx σ) I1 (.cons rfl .nil) q)
theorem pe_makeY (M : Mk X.K C fa) (F : FnOk X.prog X.w X.K X.mg X.base CX k fa fd ps sp) (hr : Room (k + 1) X.A) (hg : Gl X x) (hm : X.mg x = some (.ref C)) (hb : Binds X.K fd ps []) (hx : ∀ σ, PassesAt CX X σ (E σ))
    (ha : PA X (e :: es) t) (hdb : (x == ("__debug__" : Str)) = false) (he : starEach (e :: es) X.env = (false, eval e X.env) :: starEach es X.env) (hpl : (backTo pos (starEach es X.env)).any (·.1) = false) :
    PE X (.Call (.Name x p) (e :: es) [] pos) (fun σ H Q => t σ H fun vs H1 => ∀ x dx, H1 x = none → H1 dx = none → dx ≠ x → sp (.ref x :: vs) (upd (upd H1 dx (.own x)) x (.ins C dx [])) (fun v H2 => v = .non ∧ Q (.ref x) H2) (E σ)) := by
  refine ⟨fun pins s σ H Q I h => ?_⟩
  refine wpAny_Call_Name_kw (ld_glob I hg hm ?_ hdb)
  refine PySem.W.callWith_K (h₀ := X.base) I.ok.mod.kin M.kp (thn (ha.run pos pins s σ H _ I h) fun us s1 ⟨vs, H1, I1, r, q⟩ => ⟨I1.kIn, ?_⟩) he hpl
  have hq := q (s1.heap.objs.size + 1) s1.heap.objs.size (I1.hok.fresh (Nat.le_succ _)) (I1.hok.fresh (Nat.le_refl _)) (Nat.ne_of_lt (Nat.lt_succ_self _))
  have I2 := Inv.made (C := C) I1
  have r2 : Vals (V.ref (s1.heap.objs.size + 1) :: vs) (Value.ref (s1.heap.objs.size + 1) :: us) := .cons rfl r
  have hl : (Value.ref (s1.heap.objs.size + 1) :: us).length = ps.length := by
    have e := r2.length
    rw [F.len _ _ _ _ hq] at e
    exact e.symm
  have b := hb _ (Value.ref (s1.heap.objs.size + 1) :: us) I2.kIn (by rw [List.append_nil]; exact hl)
  rw [List.append_nil] at b
  refine wpAny_call (make_map (f := fa) I1.kIn M.makes M.init (beq_iff_eq.mp M.fn) (codeAny_mono (F.run _ X.stack _ _ ⟨Value.ref (s1.heap.objs.size + 1) :: us, []⟩ (Value.ref (s1.heap.objs.size + 1) :: us) _ _ (E σ) (hr.make C us [])
    (I2.env0.make C us []) b r2 hq) fun r s' hq' => ?_))
  cases r with
  | error e => exact hx σ pins _ _ e s' I2 hq'
  | ok fl =>
    cases fl with
    | ret u =>
      obtain ⟨v, H', I3, rv, ev, q3⟩ := I2.after hq'
      subst ev
      exact ⟨rv, ⟨V.ref (s1.heap.objs.size + 1), H', I3, rfl, q3⟩⟩
    | next => exact False.elim hq'
    | brk => exact False.elim hq'
    | cont => exact False.elim hq'

/-! ### methods without arguments -/
structure MethAt (X : Cx) (c : String) (mn : Str) (f : FnE) : Prop where
  ex : ∃ (k : Nat) (C fa : Addr) (fd : FuncData) (ps : List Str), X.mg (Str.ofString c) = some (.ref C) ∧ Cls X.K C ∧ Meth X.K C mn fa ∧ FnOk X.prog X.w X.K X.mg X.base (L2N.CX X.prog X.w) k fa fd ps (spF (ctx X) f) ∧ Binds X.K fd ps [] ∧ Room k X.A
variable {cn : String} {f : FnE}
theorem meth_core {c : Ct} {σ : St} {H : Hp} {Q : VK} {α β : Type} {dn : α → β → Hp → Prop} {Q2 : β → Hp → Prop} {F : Fr} {ρ : Rho} {Hf : Hp} {l : List D} {a dx : Addr} {fs : List (Str × V)} {C : Addr} {g : D × Rho → Out Rho (α × Rho)}
    (hk : f.ks = [.im]) (hnf : mn ∉ flds cn) (r : R c F ρ σ H Hf) (hC : c.mg (Str.ofString cn) = some (.ref C)) (dv : Den c Hf (.obj cn l) (.ref a)) :
    ∃ dx fs, H a = some (.ins C dx fs) ∧ fs.lookup mn = none ∧ Same Hf H ∧ ArgsOk c Hf H f.ks [.obj cn l] [.ref a] ∧ DistOk f.ks [V.ref a] := by
  have dv0 := dv
  obtain ⟨a', C', dx, fs, e, h1, h2, h3, h4⟩ := dv
  cases e
  rw [hC] at h1
  cases h1
  refine ⟨dx, fs, r.sub _ _ h2, lookup_none fun z => hnf ?_, r.sub, ?_, ?_⟩
  · rw [h3] at z
    exact List.mem_of_mem_take z
  · rw [hk]
    exact ⟨_, _, _, _, rfl, rfl, dv0, rfl, rfl⟩
  · intro i j a k k' h1 h2 _ _ _ _
    rw [hk] at h1
    match i, h1 with
    | 0, h1 => cases h1; exact absurd rfl h2
    | i + 1, h1 => simp at h1
theorem noio_im {vs : List V} (hk : f.ks = [.im]) : ∀ a, ¬ MuOf f.ks vs a := fun a => noio (by rw [hk]; rfl) a
theorem s_meth (hk : f.ks = [.im]) (hnf : mn ∉ flds cn) (hfr : f.fresh = false) (tk : L2N.Takes X W) (M : MethAt X cn mn f) (h : Snd X W o m) {pl : Sem Bool}
    (ht : eval (.Call (.Attribute o mn apos) [] [] pos) X.env = (do
      let ov ← eval o X.env
      standAt apos.atName
      let (f, first) ← holding [ov] (getMethod ov mn pl)
      callWith pos f first (backTo pos (starEach [] X.env)) (backToKw pos (keywordEach [] X.env)))) :
    Snd X W (.Call (.Attribute o mn apos) [] [] pos) (.meth cn f m) := by
  obtain ⟨k, C, fa, fd, ps, hC, c, hm, F, hb, hr⟩ := M.ex
  refine Snd.of (PE.mono (pe_methY h.pe c hm F hr hb (L2N.passAt tk) ht) fun σ H Q ⟨F, ρ, Hf, r, p⟩ => ?_) (fun i z => nomatch z) (fun _ => rfl)
  refine step (dnS := dE (ctx X)) (f := fun x => match x.1 with
    | .obj c' l => if cn = c' then match f.F [.obj cn l] with
      | .ok (d, _) => .ok (d, x.2)
      | .exc n _ => .exc n x.2
      | .stuck => .stuck
      else .stuck
    | _ => .stuck) r p fun d ρ1 v H1 Hf1 r1 s1 dn1 p1 => ?_
  cases d with
  | obj c' l =>
    dsimp only at p1
    by_cases hc : cn = c'
    · subst hc
      rw [if_pos rfl] at p1
      obtain ⟨a, _, _, _, rfl, _⟩ := id dn1
      obtain ⟨dx, fs, w1, w2, w3, w4, w5⟩ := meth_core (f := f) (mn := mn) (C := C) (Q := Q) (dn := dE (ctx X) σ) (Q2 := Q) (dx := 0) (fs := []) (g := .ok) hk hnf r1 hC dn1
      refine ⟨a, dx, fs, rfl, w1, w2, Hf1, [.obj cn l], w3, w4, w5, ?_⟩
      have rc : ∀ {H' Hf' : Hp}, Aft (MuOf f.ks [V.ref a]) H1 Hf1 H' Hf' → R (ctx X) F ρ1 σ H' Hf' := fun aft =>
        r1.call aft rfl (fun j => .inl ⟨rfl, fun a _ => noio_im hk a⟩) (fun a hm => absurd hm (noio_im hk a))
      cases q : f.F [.obj cn l] with
      | stuck => rw [q] at p1; exact p1.elim
      | exc n _ =>
        rw [q] at p1
        intro H' Hf' C' aft mg
        exact p1 H' Hf' C' (rc aft) aft.same mg
      | ok y =>
        obtain ⟨d, outs⟩ := y
        rw [q] at p1
        intro v H' Hf' aft ho hv
        rw [if_neg (by rw [hfr]; simp)] at hv
        exact p1 v H' Hf' (rc aft) aft.same hv
    · rw [if_neg hc] at p1; exact p1.elim
  | _ => exact p1.elim
theorem s_methF (hk : f.ks = [.im]) (hnf : mn ∉ flds cn) (hfr : f.fresh = true) (tk : L2N.Takes X W) (M : MethAt X cn mn f) (h : Snd X W o m) {pl : Sem Bool}
    (ht : eval (.Call (.Attribute o mn apos) [] [] pos) X.env = (do
      let ov ← eval o X.env
      standAt apos.atName
      let (f, first) ← holding [ov] (getMethod ov mn pl)
      callWith pos f first (backTo pos (starEach [] X.env)) (backToKw pos (keywordEach [] X.env)))) :
    SndF X W (.Call (.Attribute o mn apos) [] [] pos) (.meth cn f m) := by
  obtain ⟨k, C, fa, fd, ps, hC, c, hm, F, hb, hr⟩ := M.ex
  refine ⟨PE.mono (pe_methY h.pe c hm F hr hb (L2N.passAt tk) ht) fun σ H Q ⟨F, ρ, Hf, r, p⟩ => ?_⟩
  refine stepF (dnS := dE (ctx X)) (f := fun x => match x.1 with
    | .obj c' l => if cn = c' then match f.F [.obj cn l] with
      | .ok (d, _) => .ok (d, x.2)
      | .exc n _ => .exc n x.2
      | .stuck => .stuck
      else .stuck
    | _ => .stuck) r p fun d ρ1 v H1 Hf1 r1 s1 dn1 p1 => ?_
  cases d with
  | obj c' l =>
    dsimp only at p1
    by_cases hc : cn = c'
    · subst hc
      rw [if_pos rfl] at p1
      obtain ⟨a, _, _, _, rfl, _⟩ := id dn1
      obtain ⟨dx, fs, w1, w2, w3, w4, w5⟩ := meth_core (f := f) (mn := mn) (C := C) (Q := Q) (dn := dE (ctx X) σ) (Q2 := Q) (dx := 0) (fs := []) (g := .ok) hk hnf r1 hC dn1
      refine ⟨a, dx, fs, rfl, w1, w2, Hf1, [.obj cn l], w3, w4, w5, ?_⟩
      have rc : ∀ {H' Hf' : Hp}, Aft (MuOf f.ks [V.ref a]) H1 Hf1 H' Hf' → R (ctx X) F ρ1 σ H' Hf' := fun aft =>
        r1.call aft rfl (fun j => .inl ⟨rfl, fun a _ => noio_im hk a⟩) (fun a hm => absurd hm (noio_im hk a))
      cases q : f.F [.obj cn l] with
      | stuck => rw [q] at p1; exact p1.elim
      | exc n _ =>
        rw [q] at p1
        intro H' Hf' C' aft mg
        exact p1 H' Hf' C' (rc aft) aft.same mg
      | ok y =>
        obtain ⟨d, outs⟩ := y
        rw [q] at p1
        intro v H' Hf' aft ho hv
        rw [if_pos hfr] at hv
        obtain ⟨b, rfl, wo, hnb⟩ := hv
        exact p1 b H' Hf' (rc aft) aft.same wo (r1.free hnb).2 (fun i hi => r1.own_ne hi hnb rfl) (r1.noG hnb)
    · rw [if_neg hc] at p1; exact p1.elim
  | _ => exact p1.elim

/-! ### C(..) -/
structure MakeAt (X : Cx) (c : String) (f : FnE) : Prop where
  ex : ∃ (k : Nat) (C fa : Addr) (fd : FuncData) (ps : List Str), X.mg (Str.ofString c) = some (.ref C) ∧ Mk X.K C fa ∧ FnOk X.prog X.w X.K X.mg X.base (L2N.CX X.prog X.w) k fa fd ps (spF (ctx X) f) ∧ Binds X.K fd ps [] ∧ Room (k + 1) X.A
theorem s_make (hk : f.ks = .io :: List.replicate ms.length .im) (hfr : f.fresh = false) (tk : L2N.Takes X W) (M : MakeAt X cn f) (ha : SndL X W (e :: es) ms) (hg : Gl X (Str.ofString cn)) (hdb : ((Str.ofString cn) == ("__debug__" : Str)) = false)
    (he : starEach (e :: es) X.env = (false, eval e X.env) :: starEach es X.env) (hpl : (backTo pos (starEach es X.env)).any (·.1) = false) : Snd X W (.Call (.Name (Str.ofString cn) p) (e :: es) [] pos) (.make cn f ms) := by
  obtain ⟨k, C, fa, fd, ps, hC, M, F, hb, hr⟩ := M.ex
  refine Snd.of (PE.mono (pe_makeY M F hr hg hC hb (L2N.passAt tk) ha.pa hdb he hpl) fun σ H Q ⟨F, ρ, Hf, r, p⟩ => ?_) (fun i z => nomatch z) (fun _ => rfl)
  have p : Post (ctx X) F W σ (dE (ctx X) σ) Q Hf ((evs ms ρ).bind fun x => match f.F (.obj cn [] :: x.1) with
    | .stuck => .stuck
    | .exc n _ => .exc n x.2
    | .ok (d0, outs) => match d0, outs with
      | .non, [.obj c' l] => if c' = cn then .ok (.obj cn l, x.2) else .stuck
      | _, _ => .stuck) := p
  have hlen : ∀ ds ρ', evs ms ρ = .ok (ds, ρ') → ds.length = ms.length := fun ds ρ' z => evs_len z
  refine ⟨F, ρ, Hf, r, ?_⟩
  cases qe : evs ms ρ with
  | stuck => rw [qe] at p; exact p.elim
  | exc n ρ' => rw [qe] at p; exact p
  | ok y =>
    obtain ⟨ds, ρ1⟩ := y
    rw [qe] at p
    have hl := hlen _ _ qe
    intro vs H1 Hf1 r1 s1 dn1 x dx hx hdx hne
    dsimp only [Out.bind] at p
    have r2 := r1.allocOwn hdx (.own x)
    have hx2 : upd H1 dx (.own x) x = none := by rw [upd_ne (Ne.symm hne)]; exact hx
    have r3 := r2.allocOwn hx2 (.ins C dx [])
    have w0 : Own (ctx X) Hf1 (upd (upd H1 dx (.own x)) x (.ins C dx [])) (.obj cn []) x := ⟨(r1.free hx).1, C, dx, [], hC, upd_same, by simp, rfl⟩
    have mu : ∀ a, MuOf f.ks (V.ref x :: vs) a → a = x := fun a ⟨i, h1, h2⟩ => by
      rw [hk] at h1
      match i, h1, h2 with
      | 0, _, h2 => simp at h2; exact h2.symm
      | i + 1, h1, _ =>
        simp only [List.getElem?_cons_succ, List.getElem?_replicate] at h1
        split at h1 <;> cases h1
    have rc : ∀ {H' Hf' : Hp}, Aft (MuOf f.ks (V.ref x :: vs)) (upd (upd H1 dx (.own x)) x (.ins C dx [])) Hf1 H' Hf' → R (ctx X) F ρ1 σ H' Hf' := fun aft =>
      r3.call0 aft fun a hm => by
        rw [mu a hm]
        exact ⟨(r1.free hx).2, fun i hi => r1.own_ne hi hx rfl, r1.noG hx⟩
    refine ⟨Hf1, .obj cn [] :: ds, r3.sub, ?_, ?_, ?_⟩
    · rw [hk, ← hl]
      exact ⟨_, _, _, _, rfl, rfl, ⟨x, rfl, w0⟩, argsR dn1⟩
    · intro i j a k k' h1 h2 h3 h4 _ _
      rw [hk] at h1 h3
      have z : ∀ (i : Nat) (k : PK), (PK.io :: List.replicate ms.length PK.im)[i]? = some k → k ≠ .im → i = 0 := fun i k h1 h2 => by
        match i, h1 with
        | 0, _ => rfl
        | i + 1, h1 =>
          simp only [List.getElem?_cons_succ, List.getElem?_replicate] at h1
          split at h1
          · cases h1; exact absurd rfl h2
          · cases h1
      rw [z i k h1 h2, z j k' h3 h4]
    · cases q : f.F (.obj cn [] :: ds) with
      | stuck => rw [q] at p; exact p.elim
      | exc n _ =>
        rw [q] at p
        intro H' Hf' C' aft mg
        exact Post.mono s1 p H' Hf' C' (rc aft) aft.same mg
      | ok y =>
        obtain ⟨d0, outs⟩ := y
        rw [q] at p
        dsimp only at p ⊢
        intro v H' Hf' aft ho hv
        rw [if_neg (by rw [hfr]; simp)] at hv
        split at p
        · rename_i c' l
          split at p
          · rename_i hc
            subst hc
            have hv : v = .non := hv
            refine ⟨hv, ?_⟩
            rw [hk] at ho
            obtain ⟨d1, os, v1, vs1, e1, e2, ⟨a, e3, w1⟩, _⟩ := ho
            cases e1
            cases e2
            cases e3
            have r4 := rc aft
            obtain ⟨Hf2, r5, s5, dn⟩ := r4.freeze w1 (r1.free hx).2 (fun i hi => r1.own_ne hi hx rfl) (r1.noG hx)
            exact Post.mono s1 p (.ref x) H' Hf2 r5 (aft.same.trans s5) dn
          · exact p.elim
        · exact p.elim

/-! ### self.f = e in __init__ -/
theorem ss_setA {fr : Bool} {n i j : Nat} {fn : Str} {pos' : Pos} (hC : ClsOk (ctx X)) (ho : Snd X W o (.var i)) (h : Snd X W value m) (hf : (flds cn)[j]? = some fn) (hnd : (flds cn).Nodup) (hsz : (flds cn).length < 1000)
    (hs : swapsWith value (some (.Attribute o fn pos')) pos.line X.env = pure false) : SndS X W fr n (.Assign [.Attribute o fn pos'] value pos) (.setA cn i j m) := by
  refine ⟨PS.mono (ps_fld ho.pp h.pe hs) fun D σ H ⟨F, ρ, Hf, r, p⟩ => ?_⟩
  refine stepS (dnS := dE (ctx X)) (f := fun x => match owAt x.2 i with
    | some (.obj c' l, f) => if cn = c' ∧ l.length = j ∧ j < (flds cn).length then .ok (.nx, x.2.set i (f (.obj cn (l ++ [x.1])))) else .stuck
    | _ => .stuck) r p fun d ρ1 v H1 Hf1 r1 s1 dn1 p1 => ?_
  dsimp only at p1
  cases q : owAt ρ1 i with
  | none => rw [q] at p1; exact p1.elim
  | some z =>
    obtain ⟨d0, f0⟩ := z
    rw [q] at p1
    cases d0 with
    | obj c' l =>
      dsimp only at p1
      split at p1
      · rename_i hc
        obtain ⟨rfl, hl, hj⟩ := hc
        refine own_read r1 q fun a ha w H2 Hf2 r2 s2 => ?_
        obtain ⟨g0, C, dx, fs, g1, g2, g3, g4⟩ := own_at r2 q ha
        have hne : flds cn ≠ [] := fun z => by rw [z] at hf; simp at hf
        obtain ⟨c1, c2⟩ := hC cn C hne g1
        have hlf : fs.length = l.length := by
          have := Dens.length g4
          rw [List.length_map] at this
          exact this.symm
        have hnot : fn ∉ fs.map (·.1) := fun z => by
          rw [g3] at z
          obtain ⟨n0, hn0, e0⟩ := List.mem_iff_getElem.mp z
          rw [List.length_take] at hn0
          rw [List.getElem_take] at e0
          have e1 : (flds cn)[n0]? = some fn := by rw [List.getElem?_eq_getElem (by omega), e0]
          have : n0 = j := (List.getElem?_inj (by omega) hnd).mp (e1.trans hf.symm)
          omega
        refine ⟨a, C, dx, fs, rfl, g2, c1, c2 fn (List.mem_of_getElem? hf), by omega, ?_⟩
        rw [putF_new hnot]
        have w2 : Own (ctx X) Hf2 (upd H2 a (.ins C dx (fs ++ [(fn, v)]))) (.obj cn (l ++ [d])) a := by
          refine ⟨g0, C, dx, _, g1, upd_same, ?_, ?_⟩
          · rw [List.map_append, g3, List.length_append, hl]
            show (flds cn).take j ++ [fn] = (flds cn).take (j + 1)
            rw [List.take_add_one, hf]
            rfl
          · rw [List.map_append]
            exact Dens.append g4 (Dens.one (Den.mono s2 _ _ dn1))
        exact PostS.mono s2 p1 σ _ Hf2 (own_mut r2 q ha w2) (Same.refl _)
      · exact p1.elim
    | _ => exact p1.elim
end
end NV

/-! NV.Z: d[k] = v with the dict an own one. -/
namespace NV
open PySem PySem.Spec PyProof.Rows L2

abbrev PrX := fun (p : NestedKey × Addr × V) (q : NestedKey × Addr × Value) => p.1 = q.1 ∧ p.2.1 = q.2.1 ∧ RelV p.2.2 q.2.2
def putX (nk : NestedKey) (ka : Addr) (v : V) : List (NestedKey × Addr × V) → List (NestedKey × Addr × V)
  | [] => [(nk, ka, v)]
  | x :: xs => if x.1 = nk then (x.1, x.2.1, v) :: xs else x :: putX nk ka v xs
theorem storedH_nil (nk : NestedKey) (ka : Addr) (u : Value) : storedH [] nk ka u = [(nk, ka, u)] := rfl
theorem storedH_cons {y : NestedKey × Addr × Value} {ys : List (NestedKey × Addr × Value)} {nk : NestedKey} {ka : Addr} {u : Value} (nd : ((y :: ys).map (·.1)).Nodup) :
    storedH (y :: ys) nk ka u = if y.1 = nk then (y.1, y.2.1, u) :: ys else y :: storedH ys nk ka u := by
  have nd : y.1 ∉ ys.map (·.1) ∧ (ys.map (·.1)).Nodup := by simpa using nd
  by_cases e : y.1 = nk
  · rw [if_pos e]
    have h1 : atKey (y :: ys) nk = some y.2 := by
      unfold atKey
      simp [e]
    rw [storedH_old h1, List.map_cons]
    have e2 : ys.map (PySem.putAt nk u) = ys := by
      have : ∀ z ∈ ys, PySem.putAt nk u z = z := fun z hz => by
        unfold PySem.putAt
        rw [if_neg fun w => nd.1 (by rw [e, ← w]; exact List.mem_map_of_mem hz)]
      rw [List.map_congr_left this]
      exact List.map_id _
    rw [e2]
    congr 1
    unfold PySem.putAt
    rw [if_pos e]
  · rw [if_neg e]
    have h1 : atKey (y :: ys) nk = atKey ys nk := by
      unfold atKey
      simp [e]
    have h2 : PySem.putAt nk u y = y := by
      unfold PySem.putAt
      rw [if_neg e]
    unfold storedH
    rw [h1]
    split
    · rw [List.map_cons, h2]
    · rfl
theorem putX_paired {nk : NestedKey} {ka : Addr} {v : V} {u : Value} (ru : RelV v u) : ∀ {xs : List (NestedKey × Addr × V)} {ys : List (NestedKey × Addr × Value)}, Paired PrX xs ys → (ys.map (·.1)).Nodup → Paired PrX (putX nk ka v xs) (storedH ys nk ka u)
  | _, _, .nil, _ => .cons ⟨rfl, rfl, ru⟩ .nil
  | _, _, .cons (a := x) (b := y) (l₁ := xs) (l₂ := ys) h t, nd => by
    rw [storedH_cons nd]
    unfold putX
    have nd : y.1 ∉ ys.map (·.1) ∧ (ys.map (·.1)).Nodup := by simpa using nd
    by_cases e : y.1 = nk
    · rw [if_pos e, if_pos (h.1.trans e)]
      exact .cons ⟨h.1, h.2.1, ru⟩ t
    · rw [if_neg e, if_neg (fun z => e (h.1.symm.trans z))]
      exact .cons h (putX_paired ru t nd.2)
theorem putX_len (nk : NestedKey) (ka : Addr) (v : V) : ∀ xs : List (NestedKey × Addr × V), (putX nk ka v xs).length ≤ xs.length + 1
  | [] => Nat.le_refl _
  | x :: xs => by
    unfold putX
    split
    · simp
    · have := putX_len nk ka v xs
      simp only [List.length_cons]
      omega
theorem putX_keys (nk : NestedKey) (ka : Addr) (v : V) : ∀ xs : List (NestedKey × Addr × V), ∀ y ∈ (putX nk ka v xs).map (·.1), y = nk ∨ y ∈ xs.map (·.1)
  | [], y, h => by simp [putX] at h; exact .inl h
  | x :: xs, y, h => by
    unfold putX at h
    split at h
    · exact .inr (by simpa using h)
    · rcases List.mem_cons.mp (by simpa using h : y ∈ x.1 :: (putX nk ka v xs).map (·.1)) with e | h
      · exact .inr (by simp [e])
      · rcases putX_keys nk ka v xs y h with e | e
        · exact .inl e
        · exact .inr (by rw [List.map_cons]; exact List.mem_cons_of_mem _ e)
theorem putX_nodup (nk : NestedKey) (ka : Addr) (v : V) : ∀ xs : List (NestedKey × Addr × V), (xs.map (·.1)).Nodup → ((putX nk ka v xs).map (·.1)).Nodup
  | [], _ => by simp [putX]
  | x :: xs, h => by
    have h0 := h
    rw [List.map_cons, List.nodup_cons] at h
    unfold putX
    split
    · exact h0
    · rename_i hn
      rw [List.map_cons, List.nodup_cons]
      refine ⟨fun z => ?_, putX_nodup nk ka v xs h.2⟩
      rcases putX_keys nk ka v xs _ z with e | e
      · exact hn e
      · exact h.1 e
section
variable {c : Ct} {Hf : Hp}
theorem keysOf_cons {k : D} {ks : List D} {nks : List NestedKey} (h : keysOf (k :: ks) = some nks) : ∃ a b, keyOf k = some a ∧ keysOf ks = some b ∧ nks = a :: b := by
  unfold keysOf at h
  split at h
  · rename_i a b e1 e2
    cases h
    exact ⟨a, b, e1, e2, rfl⟩
  · cases h
theorem keysOf_mk {k : D} {ks : List D} {a : NestedKey} {b : List NestedKey} (h1 : keyOf k = some a) (h2 : keysOf ks = some b) : keysOf (k :: ks) = some (a :: b) := by
  unfold keysOf
  rw [h1, h2]
theorem put_den {k d : D} {nk : NestedKey} {ka : Addr} {v : V} (hk : keyOf k = some nk) (tk : k.tkey = true) (dk : Den c Hf k (.ref ka)) (dv : Den c Hf d v) : ∀ {xs : List (NestedKey × Addr × V)} {ks ds : List D}, keysOf ks = some (xs.map (·.1)) → ks.all D.tkey = true →
    Dens c Hf ks (xs.map fun x => V.ref x.2.1) → Dens c Hf ds (xs.map (·.2.2)) →
    keysOf (putAt k d ks ds).1 = some ((putX nk ka v xs).map (·.1)) ∧ (putAt k d ks ds).1.all D.tkey = true ∧ Dens c Hf (putAt k d ks ds).1 ((putX nk ka v xs).map fun x => V.ref x.2.1) ∧ Dens c Hf (putAt k d ks ds).2 ((putX nk ka v xs).map (·.2.2))
  | [], ks, ds, e, al, d1, d2 => by
    cases ks with
    | cons x ks => cases (show Dens c Hf (x :: ks) [] from d1) with | intro v h => obtain ⟨r, h, _⟩ := h; cases h
    | nil =>
      cases ds with
      | cons x ds => cases (show Dens c Hf (x :: ds) [] from d2) with | intro v h => obtain ⟨r, h, _⟩ := h; cases h
      | nil =>
        unfold putAt putX
        exact ⟨keysOf_mk hk rfl, by simp [tk], Dens.one dk, Dens.one dv⟩
  | x :: xs, ks, ds, e, al, d1, d2 => by
    cases ks with
    | nil => cases d1
    | cons k0 ks =>
      cases ds with
      | nil => cases d2
      | cons d0 ds =>
        obtain ⟨a, b, e1, e2, e3⟩ := keysOf_cons e
        rw [List.map_cons, List.cons.injEq] at e3
        obtain ⟨e3, e4⟩ := e3
        subst e4
        have d1' := Dens.cons_iff.mp (show Dens c Hf (k0 :: ks) (V.ref x.2.1 :: xs.map fun x => V.ref x.2.1) from d1)
        have d2' := Dens.cons_iff.mp (show Dens c Hf (d0 :: ds) (x.2.2 :: xs.map (·.2.2)) from d2)
        have al' : k0.tkey = true ∧ ks.all D.tkey = true := by simpa using al
        unfold putAt putX
        by_cases hkk : k0 = k
        · subst hkk
          rw [hk] at e1
          cases e1
          rw [if_pos rfl, if_pos e3]
          exact ⟨e, al, d1, Dens.cons_iff.mpr ⟨dv, d2'.2⟩⟩
        · have hne : ¬ x.1 = nk := fun z => hkk (keyOf_inj _ _ nk (by rw [e1, ← e3, z]) hk)
          rw [if_neg hkk, if_neg hne]
          obtain ⟨w1, w2, w3, w4⟩ := put_den hk tk dk dv e2 al'.2 d1'.2 d2'.2
          refine ⟨?_, ?_, Dens.cons_iff.mpr ⟨d1'.1, w3⟩, Dens.cons_iff.mpr ⟨d2'.1, w4⟩⟩
          · show keysOf (k0 :: (putAt k d ks ds).1) = some (x.1 :: (putX nk ka v xs).map (·.1))
            rw [e3]
            exact keysOf_mk e1 w1
          · simp only [List.all_cons, al'.1, w2, Bool.and_self]
theorem dict_laid {H : Hp} {h' : Heap} {a : Addr} {xs : List (NestedKey × Addr × V)} {ys : List (NestedKey × Addr × Value)} (m : h'.DictOfH (nestedKind c.P c.w) a ys) (p : Paired PrX xs ys) (hs : (a == sysModules) = false) (hl : xs.length ≤ sizeLine) (hn : (xs.map (·.1)).Nodup) :
    ObjOk c.P c.w H h' a (dHO c a xs) := by
  obtain ⟨o, es, ep, z5, z6, z7, z8, z9, z10⟩ := m
  refine ⟨⟨hs, hl, hn, ys, p, o, es, ep, z5, z6, z7, z8⟩, ⟨o, z5⟩, fun h1 h2 w k => dHO_stay c a xs h1 h2 k w⟩
end
section
variable {X : Cx} {W : WX} {fr : Bool} {n : Nat} {pos p3 : Pos}
/-- d[k] = v -/
def rSetN (c : Ct) : V → V → V → Hp → (Hp → Prop) → Prop := fun o i v H Q => ∃ Hf a ks ds k d, o = .ref a ∧ Same Hf H ∧ Own c Hf H (.dic ks ds) a ∧ Den c Hf k i ∧ Den c Hf d v ∧ k.tkey = true ∧ ks.length < 16777215 ∧
  ∀ o', Own c Hf (upd H a o') (.dic (putAt k d ks ds).1 (putAt k d ks ds).2) a → Q (upd H a o')
theorem set_dN (hu : X.A.units + 65 < cLine) : PSet X (rSetN (ctx X)) := by
  intro pins s σ H o i v ov iv u Q I ro ri rv ⟨Hf, a, ks, ds, k, d, eo, sm, ⟨hn, xs, hH, hk, d1, d2⟩, dk, dv, tk, hl, q⟩
  subst eo
  obtain rfl : ov = Value.ref a := ro
  obtain ⟨nk, ka, e4, rfl, hkk⟩ := key_is I sm tk dk
  obtain rfl : iv = Value.ref ka := ri
  obtain ⟨ys, w1, w2, w3, w4⟩ := dict_at I sm hH hk d1
  have hlen : ks.length = xs.length := by
    have := Dens.length d1
    rwa [List.length_map] at this
  have hyl : ys.length = xs.length := (paired_len w2).symm
  have hnd : (xs.map (·.1)).Nodup := by
    obtain ⟨⟨_, _, z3, _⟩, _⟩ := (show ObjOk X.prog X.w H s.heap a (dHO (ctx X) a xs) from I.hok a _ hH)
    exact z3
  have hnd2 : (ys.map (·.1)).Nodup := by rw [pairs_keys w2]; exact hnd
  refine wpAny_setItem_heap (knd := nestedKind X.prog X.w) (by show X.A.units + 1 + 8 < cLine; omega) hkk w1 (fun h' m' hs => ?_) (hsz := by rw [hyl]; exact w4)
  have hp := putX_paired (nk := nk) (ka := ka) rv w2 hnd2
  obtain ⟨t1, t2, t3, t4⟩ := put_den e4 tk dk dv hk.1 hk.2 d1 d2
  have hz : (putX nk ka v xs).length ≤ sizeLine := by
    have := putX_len nk ka v xs
    rw [sizeLine_eq]
    omega
  have he' : ∃ u, h'.get? a = some u := let ⟨o, _, _, z, _⟩ := m'; ⟨o, z⟩
  refine ⟨upd H a (dHO (ctx X) a (putX nk ka v xs)), I.write (x := a) (e := a) (t' := s.toks + (nestedKind X.prog X.w).draws nk) (by rw [hH]; trivial) (.inl rfl) (fun b u hb hu => (hs.2 b hb).trans hu) he' ?_, ?_⟩
  · exact dict_laid m' hp w3 hz (putX_nodup _ _ _ _ hnd)
  · exact q _ ⟨hn, _, upd_same, ⟨t1, t2⟩, t3, t4⟩
theorem ss_setK {o x y : Expr} {i : Nat} {e k : ME} (hu : X.A.units + 65 < cLine) (ho : Snd X W o (.var i)) (hk : Snd X W y k) (h : Snd X W x e)
    (ha : ∀ v, assign (.Subscript o y p3) X.env v = (do
      let ov ← holding [v] (eval o X.env)
      let iv ← holding [v, ov] (eval y X.env)
      standAt p3
      holding [v, ov, iv] (setItem ov iv v)
      release [v, ov, iv] []))
    (hs : swapsWithSole [.Subscript o y p3] x pos.line X.env = pure false) (hw : swappedStores [.Subscript o y p3] x X.env = pure none) (h1 : (assignEach [.Subscript o y p3] X.env).map (·.2) = [assign (.Subscript o y p3) X.env]) :
    SndS X W fr n (.Assign [.Subscript o y p3] x pos) (.setK i k e) := by
  refine ⟨PS.mono (ps_asg h.pe (pg_sub ho.pp hk.pe (set_dN hu) ha) hs hw h1) fun D σ H ⟨F, ρ, Hf, r, p⟩ => ?_⟩
  refine stepS (dnS := dE (ctx X)) (f := fun x => match owAt x.2 i with
    | some _ => (ev k x.2).bind fun y => match owAt y.2 i with
      | some (d, f) => match setKW d y.1 x.1 with
        | some d' => .ok (.nx, y.2.set i (f d'))
        | none => .stuck
      | none => .stuck
    | none => .stuck) r p fun d ρ1 v H1 Hf1 r1 s1 dn p1 => ?_
  dsimp only at p1
  cases q : owAt ρ1 i with
  | none => rw [q] at p1; exact p1.elim
  | some z =>
    obtain ⟨d0, f0⟩ := z
    rw [q] at p1
    dsimp only at p1
    show tP (ctx X) W (.var i) σ H1 _
    refine own_read r1 q fun a ha w H2 Hf2 r2 s2 => ?_
    refine stepS (dnS := dE (ctx X)) (f := fun y => match owAt y.2 i with
      | some (d2, f) => match setKW d2 y.1 d with
        | some d' => .ok (.nx, y.2.set i (f d'))
        | none => .stuck
      | none => .stuck) r2 (PostS.mono s2 p1) fun dk ρ3 vk H3 Hf3 r3 s3 dnk p3 => ?_
    dsimp only at p3
    cases q3 : owAt ρ3 i with
    | none => rw [q3] at p3; exact p3.elim
    | some z =>
      obtain ⟨d3, f3⟩ := z
      rw [q3] at p3
      dsimp only at p3
      cases d3 with
      | dic ks ds =>
        have p3 : PostS (ctx X) F W fr D Hf3 (match (if dk.tkey = true ∧ ks.length < 16777215 then some (NV.D.dic (putAt dk d ks ds).1 (putAt dk d ks ds).2) else none) with
          | some d' => .ok (.nx, ρ3.set i (f3 d'))
          | none => .stuck) := p3
        by_cases hj : dk.tkey = true ∧ ks.length < 16777215
        · rw [if_pos hj] at p3
          refine ⟨Hf3, a, ks, ds, dk, d, rfl, r3.sub, own_at r3 q3 ha, dnk, Den.mono (s2.trans s3) _ _ dn, hj.1, hj.2, fun o' w2 => ?_⟩
          exact p3 σ _ Hf3 (own_mut r3 q3 ha w2) (Same.refl _)
        · rw [if_neg hj] at p3; exact p3.elim
      | _ => exact p3.elim
end
end NV

/-! Nz.A: the order of alike rows; what sorted gives. -/
namespace NV
open PySem PySem.Spec PyProof.Rows L2 PySem.W

/-! ### the order -/
def rowOkP : List PyData → List PyData → Bool
  | x :: xs, y :: ys => alike x y && (if PyData.eqv x y = true then rowOkP xs ys else true)
  | _, _ => true
def tyP : PyData → Option String
  | .int _ => some "int" | .str _ => some "str" | .tuple _ => some "tuple" | _ => none
def pairOkP : PyData → PyData → Bool
  | .tuple (x :: xs), .tuple (y :: ys) => ((tyP x).isSome && decide (tyP x = tyP y)) && rowOkP (x :: xs) (y :: ys)
  | _, _ => false
def ltP (a b : D) : Bool := dataLt (py a) (py b)
def sortD (l : List D) : List D := l.mergeSort fun a b => !ltP b a
def sortOk (l : List D) : Bool := l.all D.tkey && l.all fun x => l.all fun y => pairOkP (py x) (py y)
def sortedL (l : List D) : Option D := if (allInt l).isSome || sortOk l then some (.lst (sortD l)) else none
def sortedD : D → Option D
  | .lst l => sortedL l
  | .dic ks _ => if sortOk ks then some (.lst (sortD ks)) else none
  | _ => none

theorem ltP_asym (a b : PyData) (h : dataLt a b = true) : dataLt b a = false := by
  cases h2 : dataLt b a with
  | false => rfl
  | true => exact absurd (lex_trans (O := itemOrd) _ _ _ h h2) (by rw [lex_irrefl]; exact Bool.false_ne_true)
theorem ltP_tr (a b c : PyData) (h1 : dataLt b a = false) (h2 : dataLt c b = false) : dataLt c a = false := by
  cases h : dataLt c a with
  | false => rfl
  | true =>
    rcases lex_negTrans (O := itemOrd) _ (keyToks b) _ h with z | z
    · exact absurd z (by rw [show PyProof.Rows.lexLt itemOrd (keyToks c) (keyToks b) = false from h2]; exact Bool.false_ne_true)
    · exact absurd z (by rw [show PyProof.Rows.lexLt itemOrd (keyToks b) (keyToks a) = false from h1]; exact Bool.false_ne_true)
theorem sortD_perm (l : List D) : (sortD l).Perm l := List.mergeSort_perm l _
theorem sortD_sorted (l : List D) : (sortD l).Pairwise fun a b => ltP b a = false := by
  have h := List.pairwise_mergeSort (le := fun a b : D => !ltP b a) (fun a b c h1 h2 => by
    have h1 : ltP b a = false := by simpa using h1
    have h2 : ltP c b = false := by simpa using h2
    have := ltP_tr _ _ _ h1 h2
    show (!ltP c a) = true
    rw [show ltP c a = false from this]
    rfl) (fun a b => by
    cases h : ltP b a with
    | false => rfl
    | true =>
      have : ltP a b = false := ltP_asym _ _ h
      rw [this]
      rfl) l
  exact h.imp fun z => by simpa using z
theorem rows_anti : ∀ xs ys : List PyData, rowOkP xs ys = true → rowLt xs ys = false → rowLt ys xs = false → PyData.eqvAll xs ys = true
  | [], [], _, _, _ => by simp [PyData.eqvAll]
  | [], y :: ys, _, h, _ => by
    have : rowLt [] (y :: ys) = true := by
      unfold rowLt
      rw [toks_all_cons, keyToksAll, lex_diff (O := itemOrd) (by simp)]
      rfl
    rw [this] at h
    cases h
  | x :: xs, [], _, _, h => by
    have : rowLt [] (x :: xs) = true := by
      unfold rowLt
      rw [toks_all_cons, keyToksAll, lex_diff (O := itemOrd) (by simp)]
      rfl
    rw [this] at h
    cases h
  | x :: xs, y :: ys, ok, h1, h2 => by
    unfold rowOkP at ok
    rw [Bool.and_eq_true] at ok
    obtain ⟨al, ok⟩ := ok
    rw [eqv_all_cons]
    obtain ⟨t1, t2⟩ := toks_eqv x y al
    cases e : PyData.eqv x y with
    | true =>
      rw [if_pos e] at ok
      unfold rowLt at h1 h2
      rw [toks_all_cons, toks_all_cons, t1 e] at h1 h2
      have g1 : rowLt xs ys = false := ((lex_self (O := itemOrd) _ _ _).trans (lex_pre _ _ _)).symm.trans h1
      have g2 : rowLt ys xs = false := ((lex_self (O := itemOrd) _ _ _).trans (lex_pre _ _ _)).symm.trans h2
      rw [rows_anti xs ys ok g1 g2]
      rfl
    | false =>
      exfalso
      unfold rowLt at h1 h2
      have e3 := lex_total (O := itemOrd) _ _ h1 h2
      rw [toks_all_cons, toks_all_cons] at e3
      have e4 := (List.cons.inj e3).2
      have a1 := t2 e (keyToksAll xs) (keyToksAll ys)
      have a2 := t2 e (keyToksAll xs) (keyToksAll ys ++ [.inl 0])
      rw [← List.append_assoc, e4] at a2
      rw [e4] at a1
      have a3 := lex_irrefl (O := itemOrd) (keyToks y ++ keyToksAll ys)
      have a4 : PyProof.Rows.lexLt itemOrd (keyToks y ++ keyToksAll ys) (keyToks y ++ keyToksAll ys ++ [.inl 0]) = true := by
        have := lex_pre (keyToks y ++ keyToksAll ys) [] [.inl 0]
        rw [List.append_nil] at this
        rw [this]
        rfl
      rw [a3] at a1
      rw [a4] at a2
      rw [← a1] at a2
      cases a2
mutual
theorem key_eq : ∀ a b : D, a.isKey = true → b.isKey = true → eqD a b = true → a = b
  | .non, b, _, h, e => by cases b <;> simp_all [eqD, D.isKey]
  | .int i, b, _, h, e => by cases b <;> simp_all [eqD, D.isKey]
  | .str i, b, _, h, e => by cases b <;> simp_all [eqD, D.isKey]
  | .tup l, b, h1, h2, e => by
    cases b with
    | tup l' =>
      have h1 : D.isKeyL l = true := by simpa [D.isKey] using h1
      have h2 : D.isKeyL l' = true := by simpa [D.isKey] using h2
      have e : eqL l l' = true := by simpa [eqD] using e
      rw [key_eqL l l' h1 h2 e]
    | _ => simp_all [eqD, D.isKey]
  | .bl _, b, h, _, _ => by simp [D.isKey] at h
  | .lst _, b, h, _, _ => by simp [D.isKey] at h
  | .dic _ _, b, h, _, _ => by simp [D.isKey] at h
  | .obj _ _, b, h, _, _ => by simp [D.isKey] at h
  | .scr _, b, h, _, _ => by simp [D.isKey] at h
  | .adr _, b, h, _, _ => by simp [D.isKey] at h
termination_by structural a => a
theorem key_eqL : ∀ a b : List D, D.isKeyL a = true → D.isKeyL b = true → eqL a b = true → a = b
  | [], b, _, _, e => by cases b <;> simp_all [eqL]
  | x :: a, b, h1, h2, e => by
    cases b with
    | nil => simp [eqL] at e
    | cons y b =>
      have h1 : x.isKey = true ∧ D.isKeyL a = true := by simpa [D.isKeyL] using h1
      have h2 : y.isKey = true ∧ D.isKeyL b = true := by simpa [D.isKeyL] using h2
      have e : eqD x y = true ∧ eqL a b = true := by simpa [eqL] using e
      rw [key_eq x y h1.1 h2.1 e.1, key_eqL a b h1.2 h2.2 e.2]
termination_by structural a => a
end
theorem tkey_tup {d : D} (h : d.tkey = true) : ∃ l, d = .tup l ∧ D.isKeyL l = true ∧ D.depL l ≤ 6 := by
  cases d with
  | tup l =>
    have h : D.isKeyL l = true ∧ D.depL l ≤ 6 := by simpa [D.tkey] using h
    exact ⟨l, rfl, h.1, h.2⟩
  | _ => cases h
theorem pair_anti {a b : D} (ha : a.tkey = true) (hb : b.tkey = true) (h : pairOkP (py a) (py b) = true) (h1 : ltP a b = false) (h2 : ltP b a = false) : a = b := by
  obtain ⟨l, rfl, k1, d1⟩ := tkey_tup ha
  obtain ⟨m, rfl, k2, d2⟩ := tkey_tup hb
  unfold ltP at h1 h2
  simp only [py] at h h1 h2
  rw [dataLt_tuple] at h1 h2
  have ok : rowOkP (pyL l) (pyL m) = true := by
    generalize pyL l = xs at h ⊢
    generalize pyL m = ys at h ⊢
    cases xs with
    | nil => rfl
    | cons x xs =>
      cases ys with
      | nil => rfl
      | cons y ys =>
        unfold pairOkP at h
        rw [Bool.and_eq_true] at h
        exact h.2
  have e := rows_anti _ _ ok h1 h2
  rw [py_eqvL l m (by omega) (by omega)] at e
  rw [key_eqL l m k1 k2 e]
theorem sort_uniqT {l out : List D} (ok : sortOk l = true) (p : out.Perm l) (s : out.Pairwise fun a b => ltP b a = false) : out = sortD l := by
  unfold sortOk at ok
  rw [Bool.and_eq_true, List.all_eq_true, List.all_eq_true] at ok
  refine List.Perm.eq_of_pairwise (le := fun a b => ltP b a = false) (fun a b ha hb h1 h2 => ?_) s (sortD_sorted l) (p.trans (sortD_perm l).symm)
  have ha := p.mem_iff.mp ha
  have hb := (sortD_perm l).mem_iff.mp hb
  have := ok.2 a ha
  rw [List.all_eq_true] at this
  exact pair_anti (ok.1 a ha) (ok.1 b hb) (this b hb) h2 h1
theorem sort_uniqI {is ns : List Int} (p : ns.Perm is) (s : ns.Pairwise (· ≤ ·)) : ns.map D.int = sortD (is.map D.int) := by
  refine List.Perm.eq_of_pairwise (le := fun a b => ltP b a = false) (fun a b ha hb h1 h2 => ?_) ?_ (sortD_sorted _) ((p.map _).trans (sortD_perm _).symm)
  · obtain ⟨i, _, rfl⟩ := List.mem_map.mp ha
    obtain ⟨j, _, rfl⟩ := List.mem_map.mp ((sortD_perm _).mem_iff.mp hb)
    unfold ltP at h1 h2
    simp only [py] at h1 h2
    rw [dataLt_int] at h1 h2
    have h1 := of_decide_eq_false h1
    have h2 := of_decide_eq_false h2
    congr 1
    omega
  · rw [List.pairwise_map]
    refine s.imp fun {a b} h => ?_
    unfold ltP
    simp only [py]
    rw [dataLt_int]
    exact decide_eq_false (by omega)
end NV

/-! Nz.B: sorted(..), by values. -/
namespace NV
open PySem PySem.Spec PyProof.Rows L2 PySem.W

section
variable {prog : Program} {w : World} {A : Around} {s : Shared} {b : Bool} {Q : Bool → Shared → Prop}
theorem kat_rows : ∀ (xs ys : List PyData) (vs ws : List Value) (as bs : List Addr) (i : Nat), ReadsAll s.heap vs xs as → ReadsAll s.heap ws ys bs → rowOkP xs ys = true →
    ((b && i == 0) = true → ∀ x, xs.head? = some x → ∀ l, x ≠ .tuple l) → A.units + PyData.depthAll xs < cLine → Q (rowLt xs ys) s → KatLex prog w A b (decide (vs.length < ws.length)) Q (vs.zip ws) i s
  | [], [], _, _, _, _, i, ra, rb, _, _, _, h => by
    cases ra
    cases rb
    exact kat_nil h
  | [], y :: ys, _, _, _, _, i, ra, rb, _, _, _, h => by
    cases ra
    cases rb with
    | cons r rs =>
      have e : rowLt [] (y :: ys) = true := by
        unfold rowLt
        rw [toks_all_cons, keyToksAll, lex_diff (O := itemOrd) (by simp)]
        rfl
      rw [e] at h
      refine kat_nil ?_
      simpa using h
  | x :: xs, [], _, _, _, _, i, ra, rb, _, _, _, h => by
    cases rb
    cases ra with
    | cons r rs =>
      have e : rowLt (x :: xs) [] = false := by
        unfold rowLt
        rw [toks_all_cons, keyToksAll, lex_diff (O := itemOrd) (by simp)]
        rfl
      rw [e] at h
      refine kat_nil ?_
      simpa using h
  | x :: xs, y :: ys, _, _, _, _, i, ra, rb, ok, hf, hu, h => by
    unfold rowOkP at ok
    rw [Bool.and_eq_true] at ok
    obtain ⟨al, ok⟩ := ok
    have hu' : A.units + max x.depth (PyData.depthAll xs) < cLine := by simpa [PyData.depthAll] using hu
    cases ra with
    | cons r rs =>
      rename_i v vs as1 as2
      cases rb with
      | cons r' rs' =>
        rename_i w' ws bs1 bs2
        rw [List.zip_cons_cons]
        refine kat_cons (eqAt_alike x y A s v w' as1 bs1 r r' al (by omega) prog w _ _ ?_)
        refine kat_go (fun e => ?_) (fun e => ?_)
        · rw [e] at ok
          have e2 : decide ((v :: vs).length < (w' :: ws).length) = decide (vs.length < ws.length) := by simp
          rw [e2]
          refine kat_yes (kat_rows xs ys vs ws as2 bs2 (i + 1) rs rs' (by simpa using ok) (fun z => by simp at z) (by omega) ?_)
          have e3 : rowLt (x :: xs) (y :: ys) = rowLt xs ys := dataLt_all_yes al e
          rw [← e3]
          exact h
        · have e3 : rowLt (x :: xs) (y :: ys) = dataLt x y := dataLt_all_no al e
          rw [e3] at h
          exact kat_no (oneLt_alike (fun z => hf z x rfl) r r' al (ne_none_of al e) (by omega) h)
def tyVal (x : PyData) : Value := .type ((tyP x).getD "int")
theorem ty_looks {M : Model} {h : Heap} {v : Value} {x : PyData} {as : List Addr} (r : Reads h v x as) (hx : (tyP x).isSome = true) : Looks M h (typeOf v) (tyVal x) := by
  cases r with
  | int i t => exact Looks.now
  | str i t => exact Looks.now
  | tuple h1 h2 h3 h4 =>
    have this : Looks M h (typeOf (.ref _)) _ := (Looks.ld h1).andThen .now
    rw [h2] at this
    exact this
  | _ => simp [tyP] at hx
theorem reads_mem : ∀ {vs : List Value} {ds : List PyData} {as : List Addr} {h : Heap}, ReadsAll h vs ds as → ∀ v ∈ vs, ∃ d ∈ ds, ∃ bs, Reads h v d bs
  | _, _, _, _, .nil, v, hv => by cases hv
  | _, _, _, _, .cons r rs, v, hv => by
    rcases List.mem_cons.mp hv with rfl | hv
    · exact ⟨_, List.mem_cons_self, _, r⟩
    · obtain ⟨d, h1, h2⟩ := reads_mem rs v hv
      exact ⟨d, List.mem_cons_of_mem _ h1, h2⟩
theorem firsts_at {T : Option String} {h : Heap} : ∀ {vs : List Value} {ps : List PyData} {as : List Addr}, ReadsAll h vs ps as → (∀ p ∈ ps, ∃ x xs, p = .tuple (x :: xs) ∧ tyP x = T) → ∃ fs, KatTups h vs fs ∧ fs.length = vs.length ∧ ∀ f ∈ fs, ∃ x bs, Reads h f x bs ∧ tyP x = T
  | _, _, _, .nil, _ => ⟨[], KatTups.nil, rfl, fun f hf => by cases hf⟩
  | _, _, _, .cons (v := v) (vs := vs) (d := p) (ds := ps) r rs, hp => by
    obtain ⟨fs, h1, h2, h3⟩ := firsts_at rs fun p hp' => hp p (List.mem_cons_of_mem _ hp')
    obtain ⟨x, xs, e, ht⟩ := hp p List.mem_cons_self
    subst e
    cases r with
    | tuple g1 g2 g3 g4 =>
      rename_i a o its n
      generalize hl : its.toList = il at g4
      cases g4 with
      | cons r1 r2 =>
        rename_i f il' b1 b2
        have hf : its[0]? = some f := by
          rw [← Array.getElem?_toList, hl]
          rfl
        exact ⟨f :: fs, KatTups.cons g1 g2 g3 hf h1, by simp [h2], fun g hg => by
          rcases List.mem_cons.mp hg with rfl | hg
          · exact ⟨x, _, r1, ht⟩
          · exact h3 g hg⟩
theorem tups_cmp {h0 : Heap} {vs : List Value} {ps : List PyData} {as : List Addr} (k : ∀ b o, h0.get? b = some o → s.heap.get? b = some o) (rd : ReadsAll h0 vs ps as) (lay : PyData.canLayAll0 ps = true) (h2 : 0 < vs.length)
    (ok : ∀ x ∈ ps, ∀ y ∈ ps, pairOkP x y = true) (hu : A.units + PyData.depthAll ps < cLine) : ∃ κ, (∀ (Q : SortKind → Shared → Prop) (E : Value → Shared → Prop), Q κ s → wpAny (model prog w) A (keyKind' vs.toArray) Q E s) ∧
      SrtO.Cmp prog w A s κ (fun p => p.1 ∈ vs) (SrtO.lt2 fun v u => dataLt (SeqAt.readOf h0 v) (SeqAt.readOf h0 u)) := by
  have rd' : ReadsAll s.heap vs ps as := PyProof.Rows.ReadsAll.keeps k rd
  have shape : ∀ x ∈ ps, ∀ y ∈ ps, ∃ a l b m, x = .tuple (a :: l) ∧ y = .tuple (b :: m) ∧ (tyP a).isSome = true ∧ tyP a = tyP b ∧ rowOkP (a :: l) (b :: m) = true := fun x hx y hy => by
    have h := ok x hx y hy
    unfold pairOkP at h
    split at h
    · rename_i a l b m
      rw [Bool.and_eq_true, Bool.and_eq_true, decide_eq_true_eq] at h
      exact ⟨a, l, b, m, rfl, rfl, h.1.1, h.1.2, h.2⟩
    · cases h
  have hps : ∃ p0, p0 ∈ ps := by
    cases rd with
    | nil => exact absurd h2 (by simp)
    | cons r rs => exact ⟨_, List.mem_cons_self⟩
  obtain ⟨p0, hp0⟩ := hps
  obtain ⟨a0, l0, _, _, e0, _, s0, _, _⟩ := shape p0 hp0 p0 hp0
  obtain ⟨fs, f1, f2, f3⟩ := firsts_at (T := tyP a0) rd' fun p hp => by
    obtain ⟨a, l, b, m, e1, e2, _, e3, _⟩ := shape p hp p0 hp0
    rw [e0] at e2
    cases e2
    exact ⟨a, l, e1, e3⟩
  refine ⟨tuples' (tyVal a0 != Value.type "tuple"), fun Q E hq => kat_kind f1 (by omega) (fun f hf => ?_) (by simp) hq, fun p q hp hq => ?_⟩
  · obtain ⟨x, bs, r, ht⟩ := f3 f hf
    have := ty_looks (M := model prog w) r (by rw [ht]; exact s0)
    unfold tyVal at this ⊢
    rw [ht] at this
    exact this
  · obtain ⟨dp, hdp, b1, rp⟩ := reads_mem rd p.1 hp
    obtain ⟨dq, hdq, b2, rq⟩ := reads_mem rd q.1 hq
    have layOf : ∀ d ∈ ps, d.canLay0 = true ∧ d.depth ≤ PyData.depthAll ps := by
      intro d hd
      clear ok shape hu rd rd' hp0 f1 f2 f3 hdp hdq rp rq
      induction ps with
      | nil => cases hd
      | cons x xs ih =>
        have l2 : x.canLay0 = true ∧ PyData.canLayAll0 xs = true := by simpa [PyData.canLayAll0] using lay
        have dd : PyData.depthAll (x :: xs) = max x.depth (PyData.depthAll xs) := by simp [PyData.depthAll]
        rcases List.mem_cons.mp hd with rfl | hd
        · exact ⟨l2.1, by omega⟩
        · obtain ⟨z1, z2⟩ := ih l2.2 hd
          exact ⟨z1, by omega⟩
    obtain ⟨yp, dpp⟩ := layOf dp hdp
    obtain ⟨yq, _⟩ := layOf dq hdq
    show wpAny (model prog w) A (keyLt' (tuples' (tyVal a0 != Value.type "tuple")) p.1 q.1) (fun r s' => s' = s ∧ r = dataLt (SeqAt.readOf h0 p.1) (SeqAt.readOf h0 q.1)) (fun _ _ => False) s
    rw [SeqAt.readOf_eq yp rp, SeqAt.readOf_eq yq rq]
    obtain ⟨a, l, b, m, rfl, rfl, s1, s2, s3⟩ := shape dp hdp dq hdq
    obtain ⟨a', l', b', m', e1, e2, _, s4, _⟩ := shape _ hdp p0 hp0
    cases e1
    rw [e0] at e2
    cases e2
    have rp' := PyProof.Rows.Reads.keeps k rp
    have rq' := PyProof.Rows.Reads.keeps k rq
    generalize hv : p.1 = pv at rp'
    generalize hw : q.1 = qv at rq'
    cases rp' with
    | tuple g1 g2 g3 g4 =>
      cases rq' with
      | tuple k1 k2 k3 k4 =>
        rename_i ap op vp np aq oq vq nq
        refine kat_lt g1 g3 k1 k3 ?_
        have e5 : decide (vp.size < vq.size) = decide (vp.toList.length < vq.toList.length) := by simp
        rw [e5, dataLt_tuple]
        refine kat_rows (a :: l) (b :: m) vp.toList vq.toList _ _ 0 g4 k4 s3 (fun z x hx t et => ?_) ?_ ⟨rfl, rfl⟩
        · cases hx
          subst et
          have : tyVal a0 = Value.type "tuple" := by
            unfold tyVal
            rw [← s4]
            rfl
          rw [this] at z
          simp at z
        · have : (PyData.tuple (a :: l)).depth = PyData.depthAll (a :: l) + 1 := by simp [PyData.depth]
          omega
end
/-! the arrangement, as data -/
section
variable {c : Ct} {Hf : Hp}
theorem vals_cons_inv {v : V} {vs : List V} {us : List Value} (h : Vals (v :: vs) us) : ∃ u us', us = u :: us' ∧ RelV v u ∧ Vals vs us' := by
  cases h with
  | cons a b => exact ⟨_, _, rfl, a, b⟩
theorem perm_lift {its out : List Value} (p : its.Perm out) : ∀ {vs : List V} {l : List D}, Vals vs its → Dens c Hf l vs → ∃ vs' l', l.Perm l' ∧ Vals vs' out ∧ Dens c Hf l' vs' := by
  induction p with
  | nil =>
    intro vs l h1 h2
    exact ⟨vs, l, .refl _, h1, h2⟩
  | cons x p ih =>
    intro vs l h1 h2
    cases h1 with
    | cons a b =>
      rename_i v vs
      cases l with
      | nil => cases h2
      | cons d l =>
        have h2 := Dens.cons_iff.mp h2
        obtain ⟨vs', l', w1, w2, w3⟩ := ih b h2.2
        exact ⟨v :: vs', d :: l', w1.cons d, .cons a w2, Dens.cons_iff.mpr ⟨h2.1, w3⟩⟩
  | swap x y r =>
    intro vs l h1 h2
    cases h1 with
    | cons a b =>
      cases b with
      | cons a' b' =>
        rename_i v v' vs
        cases l with
        | nil => cases h2
        | cons d l =>
          have h2 := Dens.cons_iff.mp h2
          cases l with
          | nil => cases h2.2
          | cons d' l =>
            have h3 := Dens.cons_iff.mp h2.2
            exact ⟨_, d' :: d :: l, .swap _ _ _, .cons a' (.cons a b'), Dens.cons_iff.mpr ⟨h3.1, Dens.cons_iff.mpr ⟨h2.1, h3.2⟩⟩⟩
  | trans p q ih1 ih2 =>
    intro vs l h1 h2
    obtain ⟨vs1, l1, w1, w2, w3⟩ := ih1 h1 h2
    obtain ⟨vs2, l2, w4, w5, w6⟩ := ih2 w2 w3
    exact ⟨vs2, l2, w1.trans w4, w5, w6⟩
end
theorem allInt_map : ∀ {l : List D} {is : List Int}, allInt l = some is → l = is.map D.int
  | [], is, h => by cases h; rfl
  | x :: l, is, h => by
    cases x with
    | int i =>
      have h : (allInt l).map (i :: ·) = some is := h
      cases z : allInt l with
      | none => rw [z] at h; cases h
      | some js =>
        rw [z] at h
        cases h
        rw [allInt_map z]
        rfl
    | _ => cases h
theorem pyL_map : ∀ l : List D, pyL l = l.map py
  | [] => rfl
  | x :: l => by
    unfold pyL
    rw [pyL_map l]
    rfl
theorem depL_tkey : ∀ {l : List D}, l.all D.tkey = true → D.depL l ≤ 7
  | [], _ => by simp [D.depL]
  | x :: l, h => by
    have h : x.tkey = true ∧ l.all D.tkey = true := by simpa using h
    obtain ⟨m, rfl, _, h2⟩ := tkey_tup h.1
    have := depL_tkey h.2
    simp only [D.depL, D.dep]
    omega
section
variable {X : Cx} {pins : List (Addr × Obj)} {σ0 : St} {H Hf : Hp} {s : Shared} {its out : List Value} {vs : List V} {l : List D}
/-- the items of rows that may be sorted, read -/
theorem rows_read (I : Inv X pins σ0 H s) (sm : Same Hf H) (ok : sortOk l = true) (rv : Vals vs its) (dn : Dens (ctx X) Hf l vs) : ∃ as, ReadsAll s.heap its (pyL l) as ∧ PyData.canLayAll0 (pyL l) = true ∧ PyData.depthAll (pyL l) ≤ 7 ∧ ∀ x ∈ pyL l, ∀ y ∈ pyL l, pairOkP x y = true := by
  unfold sortOk at ok
  rw [Bool.and_eq_true] at ok
  have hd := depL_tkey ok.1
  obtain ⟨w1, w2⟩ := dens_dp sm l vs (by omega) dn
  obtain ⟨as, r⟩ := Dp.readsAll I _ _ _ w1 rv
  refine ⟨as, r, w2, ?_, fun x hx y hy => ?_⟩
  · rw [py_depthL l (by omega)]
    exact hd
  · rw [pyL_map] at hx hy
    obtain ⟨a, ha, rfl⟩ := List.mem_map.mp hx
    obtain ⟨b, hb, rfl⟩ := List.mem_map.mp hy
    have := List.all_eq_true.mp ok.2 a ha
    exact List.all_eq_true.mp this b hb
/-- what comes out -/
theorem rows_out (I : Inv X pins σ0 H s) (sm : Same Hf H) (ok : sortOk l = true) (rv : Vals vs its) (dn : Dens (ctx X) Hf l vs) (hp : out.Perm its) (hs : SrtO.Srtd (fun v u => dataLt (SeqAt.readOf s.heap v) (SeqAt.readOf s.heap u)) out) :
    ∃ vs', Vals vs' out ∧ Dens (ctx X) Hf (sortD l) vs' ∧ vs'.length = vs.length := by
  obtain ⟨vs', l', w1, w2, w3⟩ := perm_lift hp.symm rv dn
  have ok0 := ok
  unfold sortOk at ok0
  rw [Bool.and_eq_true] at ok0
  have hd : D.depL l' ≤ 7 := depL_tkey (List.all_eq_true.mpr fun x hx => List.all_eq_true.mp ok0.1 x (w1.mem_iff.mpr hx))
  obtain ⟨z1, z2⟩ := dens_dp sm l' vs' (by omega) w3
  obtain ⟨as, r⟩ := Dp.readsAll I _ _ _ z1 w2
  have hm := SeqAt.readsAll_map _ _ _ z2 r
  have e : l' = sortD l := by
    refine sort_uniqT ok w1.symm ?_
    have h1 : (out.map (SeqAt.readOf s.heap)).Pairwise fun a b => dataLt b a = false := List.pairwise_map.mpr hs
    rw [hm, pyL_map] at h1
    exact List.pairwise_map.mp h1
  rw [← e]
  refine ⟨vs', w2, w3, ?_⟩
  rw [w2.length, hp.length_eq, rv.length]
variable {W : WX}
theorem sa_keep {vs : List Value} {out : Array Value} : ∀ b o, s.heap.get? b = some o → (sortedAll s.heap vs out).get? b = some o := fun b o e => sortedAll_old e
theorem call_sorted (hu : X.A.units + 65 < cLine) (hc : X.calm = true) : CallR X (.builtin "sorted") (rB1F (ctx X) W sortedD) := by
  intro pins s σ0 H xs us Q I rv ⟨F, ρ, σ, Hf, d, x, ex, r, tp, po⟩
  subst ex
  have hu2 : X.A.in1.in1.units + 7 < cLine := by show X.A.units + 1 + 1 + 7 < cLine; omega
  cases d with
  | lst l =>
    obtain ⟨a, vs, rfl, hH, dn⟩ := tp
    have hs := SqL.of (K := X.K) hH
    obtain ⟨its, rvl, hl, hz⟩ := I.list hs
    have po : PostF (ctx X) F W σ Q Hf (opt (if (allInt l).isSome || sortOk l then some (.lst (sortD l)) else none) ρ) := po
    cases ei : allInt l with
    | some is =>
      rw [ei] at po
      have e1 := allInt_den ei dn
      subst e1
      have e2 := allInt_map ei
      refine cr_sortedI pins s σ0 H _ us Q I rv ⟨a, is, rfl, hs, fun ns' p hp hso hpn => ?_⟩
      have po : PostF (ctx X) F W σ Q Hf (.ok (.lst (sortD l), ρ)) := po
      refine PostF.new r po hpn ⟨(r.free hpn).1, _, upd_same, ?_⟩
      rw [e2, ← sort_uniqI hp hso]
      exact ints_den _ ns'
    | none =>
      rw [ei] at po
      by_cases ok : sortOk l = true
      · have po : PostF (ctx X) F W σ Q Hf (opt (if (false || sortOk l) = true then some (.lst (sortD l)) else none) ρ) := po
        rw [ok, if_pos (by rfl)] at po
        rw [Vals.ref1 rv]
        obtain ⟨as, rd, lay, dep, prs⟩ := rows_read I r.sub ok rvl dn
        refine SrtO.sorted_ord (ltv := fun v u => dataLt (SeqAt.readOf s.heap v) (SeqAt.readOf s.heap u)) ⟨fun x y h => ltP_asym _ _ h, fun x y z h1 h2 => ltP_tr _ _ _ h1 h2⟩ hl.isList (by rw [← rvl.length]; exact hz) (fun h2 h₁ a' ha' keep => ?_) fun out h1 h2 => ?_
        · intro h' keep'
          exact tups_cmp (s := { s with heap := h' }) (fun b o e => keep' b o (keep b o e).1 (keep b o e).2) rd lay (by omega) prs (by omega)
        · obtain ⟨ep, he'⟩ := PyProof.Rows.sortedAll_at s.heap its out.toArray
          obtain ⟨vs', w1, w2, w3⟩ := rows_out I r.sub ok rvl dn h2.perm h1
          have hpn : H (s.heap.objs.size + 1) = none := I.hok.fresh (Nat.le_succ _)
          exact ⟨.ref _, upd H (s.heap.objs.size + 1) (.lst vs'), I.laid (t' := s.toks) (fun _ _ => PyProof.Rows.sortedAll_old) (Nat.le_succ _) ⟨by rw [w3]; exact hz, out, ep, w1, he'⟩, rfl,
            PostF.new r po hpn ⟨(r.free hpn).1, vs', upd_same, w2⟩⟩
      · have ok : sortOk l = false := by simpa using ok
        have po : PostF (ctx X) F W σ Q Hf (opt (if (false || sortOk l) = true then some (.lst (sortD l)) else none) ρ) := po
        rw [ok, if_neg (by simp)] at po
        exact po.elim
  | dic ks ds =>
    obtain ⟨a, xs, rfl, hH, hk, d1, d2⟩ := tp
    have po : PostF (ctx X) F W σ Q Hf (opt (if sortOk ks then some (.lst (sortD ks)) else none) ρ) := po
    by_cases ok : sortOk ks = true
    · rw [if_pos ok] at po
      rw [Vals.ref1 rv]
      obtain ⟨⟨z1, z2, z3, ys, z4, o, es, ep, z5, z6, z7, z8⟩, _, _⟩ := (show ObjOk X.prog X.w H s.heap a (dHO (ctx X) a xs) from I.hok a _ hH)
      have hsz : es.size = xs.length := by
        have := congrArg List.length z8
        rw [List.length_map, ← paired_len z4, Array.length_toList] at this
        exact this
      have keyAt : ∀ (i : Nat) (hi : i < es.size), ∃ y, xs[i]? = some y ∧ es[i].key = .ref y.2.1 := fun i hi => by
        have e1 : es.toList[i]? = (ys.map (entryOfKey (nestedKind X.prog X.w)))[i]? := by rw [z8]
        rw [Array.getElem?_toList, Array.getElem?_eq_getElem hi, List.getElem?_map] at e1
        cases q : ys[i]? with
        | none => rw [q] at e1; cases e1
        | some y =>
          rw [q] at e1
          have e1 := Option.some.inj e1
          have hx : i < xs.length := by omega
          refine ⟨xs[i], List.getElem?_eq_getElem hx, ?_⟩
          have e2 : y.2.1 = (xs[i]).2.1 := by
            have : ∀ {xs : List (NestedKey × Addr × V)} {ys : List (NestedKey × Addr × Value)} {i : Nat} {y x}, Paired PrX xs ys → ys[i]? = some y → xs[i]? = some x → x.2.1 = y.2.1 := by
              intro xs ys i y x p
              induction p generalizing i with
              | nil => intro h; simp at h
              | cons h t ih =>
                intro h1 h2
                cases i with
                | zero =>
                  simp at h1 h2
                  subst h1 h2
                  exact h.2.1
                | succ i => exact ih (by simpa using h1) (by simpa using h2)
            exact (this z4 q (List.getElem?_eq_getElem hx)).symm
          rw [e1, ← e2]
          rfl
      refine Calls.call_function_entry PyProof.Rows.kind_sorted PyProof.Rows.plain_sorted PyProof.Rows.entry_sorted (PyProof.Rows.args_sorted1 _) ?_
      unfold Builtin.«sorted»
      refine wpAny_bind (m := checkCount "sorted" 1 1 _) (wpAny_pure ?_)
      refine wpAny_bind (PySem.W.kdu_collect (A := X.A.in1) (PySem.KdlSrc.rawDict (es := es) (ep := ep) z1) (I.ok.hd hc) ⟨o, z5, z6, z7⟩ (by omega) fun h' tk acc hkp hacc => ?_)
      have hal : acc.toList.length = xs.length := by rw [Array.length_toList, hacc.1, hsz]
      have rvk : Vals (xs.map fun x => V.ref x.2.1) acc.toList := by
        refine vals_of_get (by rw [List.length_map, hal]) fun i x u h1 h2 => ?_
        rw [List.getElem?_map] at h1
        rw [Array.getElem?_toList] at h2
        obtain ⟨hi, ev⟩ := hacc.2 i u h2
        obtain ⟨y, e1, e2⟩ := keyAt i hi
        rw [e1] at h1
        cases h1
        rw [ev, e2]
        rfl
      have I1 : Inv X pins σ0 H { s with heap := h', toks := tk } := I.kept hkp
      have hzl : acc.toList.length ≤ sizeLine := by rw [hal]; exact z2
      refine wpAny_bind (wpAny_newList ?_ hzl)
      have hoL : (h'.push (seqObj "list" acc.toList.toArray 0)).get? h'.objs.size = some (seqObj "list" acc.toList.toArray 0) := Heap.get?_push_size _ rfl
      obtain ⟨as, rd, lay, dep, prs⟩ := rows_read I1 r.sub ok rvk d1
      show wpAny _ _ _ _ _ { s with heap := h'.push (seqObj "list" acc.toList.toArray 0), toks := tk }
      refine wpAny_bind (wpAny_holding (wpAny_call_entry PyProof.Rows.slot_list_sort ⟨_, hoL, rfl⟩ PyProof.Rows.entry_list_sort
        (SrtO.list_sort_ord (ltv := fun v u => dataLt (SeqAt.readOf h' v) (SeqAt.readOf h' u)) ⟨fun x y h => ltP_asym _ _ h, fun x y z h1 h2 => ltP_tr _ _ _ h1 h2⟩ hoL hzl (fun h2 => ?_) fun out h1 h2 => ⟨_, rfl, ?_⟩)
        (PyProof.Rows.args_list_sort _)))
      · intro h2' keep'
        refine tups_cmp (s := { s with heap := h2', toks := tk }) (fun b o e => ?_) rd lay (by omega) prs (by omega)
        have hb : b < h'.objs.size := Heap.lt_size e
        exact keep' b o (Nat.ne_of_lt hb) (Heap.get?_push_of_some _ e)
      · obtain ⟨e', he'⟩ := PyProof.Rows.sortedHeap_at (vs := acc.toList) (out := out.toArray) hoL
        obtain ⟨vs', w1, w2, w3⟩ := rows_out I1 r.sub ok rvk d1 h2.perm h1
        have hpn : H h'.objs.size = none := I1.hok.fresh (Nat.le_refl _)
        refine wpAny_pure ⟨_, rfl, .ref h'.objs.size, upd H h'.objs.size (.lst vs'), I1.laid (t' := tk) (fun b u e => ?_) (Nat.le_refl _) ⟨by rw [w3, List.length_map]; exact z2, out, e', w1, he'⟩, rfl,
            PostF.new r po hpn ⟨(r.free hpn).1, vs', upd_same, w2⟩⟩
        have hb : b < h'.objs.size := Heap.lt_size e
        rw [PyProof.Rows.sortedHeap_old (Nat.ne_of_lt hb) (by rw [size_push']; exact Nat.lt_succ_of_lt hb)]
        exact Heap.get?_push_of_some _ e
    · rw [if_neg ok] at po
      exact po.elim
  | _ => exact po.elim
end
end NV

/-! Nz.C: calls of built-ins as functions of data: sorted, max. -/
namespace NV
open PySem PySem.Spec PyProof.Rows L2

def rPu (c : Ct) (W : WX) (f : List D → Option D) : List V → Hp → VK → Prop := fun xs H Q => ∃ F ρ σ Hf ds, R c F ρ σ H Hf ∧ Tops c Hf H ds xs ∧ Post c F W σ (dE c σ) Q Hf (opt (f ds) ρ)
def rPuF (c : Ct) (W : WX) (f : List D → Option D) : List V → Hp → VK → Prop := fun xs H Q => ∃ F ρ σ Hf ds, R c F ρ σ H Hf ∧ Tops c Hf H ds xs ∧ PostF c F W σ Q Hf (opt (f ds) ρ)
section
variable {X : Cx} {W : WX} {e : Expr} {es : List Expr} {m : ME} {ms : List ME} {pos p : Pos} {b : Bool} {f : List D → Option D}
theorem pu_arg : ∀ σ H Q, tv (ctx X) W (ev (.pu b f ms)) σ H Q → tCB (rPu (ctx X) W f) (tvG (ctx X) W (dPs (ctx X) ms) (pres ms)) σ H Q := fun σ H Q ⟨F, ρ, Hf, r, p⟩ => by
  refine step (dnS := dPs (ctx X) ms) (f := fun x => match finL ms x.1 x.2 with
    | some ds => opt (f ds) x.2
    | none => .stuck) r p fun os ρ' vs H' Hf' r' s' dn p' => ?_
  dsimp only at p'
  cases q : finL ms os ρ' with
  | none => rw [q] at p'; exact p'.elim
  | some ds =>
    rw [q] at p'
    exact ⟨F, ρ', σ, Hf', ds, r', tops_finL r' (Same.refl _) dn q, p'⟩
theorem pu_argF : ∀ σ H Q, tvF (ctx X) W (ev (.pu b f ms)) σ H Q → tCB (rPuF (ctx X) W f) (tvG (ctx X) W (dPs (ctx X) ms) (pres ms)) σ H Q := fun σ H Q ⟨F, ρ, Hf, r, p⟩ => by
  refine stepF (dnS := dPs (ctx X) ms) (f := fun x => match finL ms x.1 x.2 with
    | some ds => opt (f ds) x.2
    | none => .stuck) r p fun os ρ' vs H' Hf' r' s' dn p' => ?_
  dsimp only at p'
  cases q : finL ms os ρ' with
  | none => rw [q] at p'; exact p'.elim
  | some ds =>
    rw [q] at p'
    exact ⟨F, ρ', σ, Hf', ds, r', tops_finL r' (Same.refl _) dn q, p'⟩
theorem s_pu {nm : Str} {id : String} (h : SndL X W (e :: es) ms) (hc : CallR X (.builtin id) (rPu (ctx X) W f)) (hg : Gl X nm) (hm : X.mg nm = none) (hv : bootBuiltins nm = some (.builtin id))
    (hn : nm ≠ "__name__") (hd : (nm == ("__debug__" : Str)) = false) (he : starEach (e :: es) X.env = (false, eval e X.env) :: starEach es X.env) (hpl : (backTo pos (starEach es X.env)).any (·.1) = false) : Snd X W (.Call (.Name nm p) (e :: es) [] pos) (.pu b f ms) :=
  Snd.of (PE.mono (pe_callB hc hg hm hv h.pps hn hd he hpl) pu_arg) (fun i z => nomatch z) (fun _ => rfl)
theorem s_puF {nm : Str} {id : String} (h : SndL X W (e :: es) ms) (hc : CallR X (.builtin id) (rPuF (ctx X) W f)) (hg : Gl X nm) (hm : X.mg nm = none) (hv : bootBuiltins nm = some (.builtin id))
    (hn : nm ≠ "__name__") (hd : (nm == ("__debug__" : Str)) = false) (he : starEach (e :: es) X.env = (false, eval e X.env) :: starEach es X.env) (hpl : (backTo pos (starEach es X.env)).any (·.1) = false) : SndF X W (.Call (.Name nm p) (e :: es) [] pos) (.pu b f ms) :=
  ⟨PE.mono (pe_callB hc hg hm hv h.pps hn hd he hpl) pu_argF⟩
def one (f : D → Option D) : List D → Option D
  | [d] => f d
  | _ => none
def maxD : List D → Option D
  | [.int i, .int j] => some (.int (if j > i then j else i))
  | _ => none
theorem call_sortedPu (hu : X.A.units + 65 < cLine) (hc : X.calm = true) : CallR X (.builtin "sorted") (rPuF (ctx X) W (one sortedD)) := fun pins s σ0 H xs us Q I rv ⟨F, ρ, σ, Hf, ds, r, tp, po⟩ => by
  cases tp with
  | nil => exact po.elim
  | cons t1 t2 =>
    cases t2 with
    | nil => exact call_sorted hu hc pins s σ0 H _ us Q I rv ⟨F, ρ, σ, Hf, _, _, rfl, r, t1, po⟩
    | cons _ _ => exact po.elim
theorem call_maxPu (hc : X.calm = true) : CallR X (.builtin "max") (rPu (ctx X) W maxD) := fun pins s σ0 H xs us Q I rv ⟨F, ρ, σ, Hf, ds, r, tp, po⟩ => by
  cases tp with
  | nil => exact po.elim
  | @cons d v ds vs t1 t2 =>
    cases t2 with
    | nil => cases d <;> exact po.elim
    | @cons d2 v2 ds2 vs2 t2 t3 =>
      cases t3 with
      | nil =>
        cases d with
        | int i =>
          cases d2 with
          | int j =>
            have t1 : v = .int i := t1
            have t2 : v2 = .int j := t2
            subst t1 t2
            exact call_max2 hc pins s σ0 H _ us Q I rv ⟨i, j, rfl, po _ _ _ r (Same.refl _) rfl⟩
          | _ => exact po.elim
        | _ => exact po.elim
      | cons _ _ => cases d <;> first | exact po.elim | (cases d2 <;> exact po.elim)
theorem g_sorted (O : Okc X W) (hm : X.mg "sorted" = none) (h : Snd X W e m) (hg : Gl X "sorted" := by rfl) (he : starEach [e] X.env = (false, eval e X.env) :: starEach [] X.env := by rfl) (hpl : (backTo pos (starEach [] X.env)).any (·.1) = false := by rfl) :
    SndF X W (.Call (.Name "sorted" p) [e] [] pos) (.pu true (one sortedD) [m]) :=
  s_puF (.cons h he .nil) (call_sortedPu O.hu O.calm) hg hm (by rfl) (by decide) (by decide) he hpl
theorem g_max {e2 : Expr} {m2 : ME} (O : Okc X W) (hm : X.mg "max" = none) (h : Snd X W e m) (h2 : Snd X W e2 m2) (hg : Gl X "max" := by rfl) (he : starEach [e, e2] X.env = (false, eval e X.env) :: starEach [e2] X.env := by rfl) (he2 : starEach [e2] X.env = (false, eval e2 X.env) :: starEach [] X.env := by rfl) (hpl : (backTo pos (starEach [e2] X.env)).any (·.1) = false := by rfl) :
    Snd X W (.Call (.Name "max" p) [e, e2] [] pos) (.pu false maxD [m, m2]) :=
  s_pu (.cons h he (.cons h2 he2 .nil)) (call_maxPu O.calm) hg hm (by rfl) (by decide) (by decide) he hpl
end
end NV

/-! Nz.D: a dict of rows, made by setdefault and append in a loop. -/
namespace NV
open PySem PySem.Spec PyProof.Rows L2

/-! ### setdefault -/
def lookX (nk : NestedKey) : List (NestedKey × Addr × V) → Option V
  | [] => none
  | x :: xs => if x.1 = nk then some x.2.2 else lookX nk xs
theorem look_paired {nk : NestedKey} : ∀ {xs : List (NestedKey × Addr × V)} {ys : List (NestedKey × Addr × Value)}, Paired PrX xs ys → match lookX nk xs with
    | some v => ∃ p, atKey ys nk = some p ∧ RelV v p.2
    | none => atKey ys nk = none
  | _, _, .nil => rfl
  | _, _, .cons (a := x) (b := y) (l₁ := xs) (l₂ := ys) h t => by
    have ih := look_paired (nk := nk) t
    unfold lookX
    by_cases e : x.1 = nk
    · rw [if_pos e]
      refine ⟨y.2, ?_, h.2.2⟩
      unfold atKey
      simp [h.1.symm.trans e]
    · rw [if_neg e]
      have e2 : ¬ y.1 = nk := fun z => e (h.1.trans z)
      have e3 : atKey (y :: ys) nk = atKey ys nk := by
        unfold atKey
        simp [e2]
      rw [e3]
      exact ih
def tSetdN (c : Ct) (td ty tx : TE) : TE := fun σ H Q => td σ H fun x H1 => ∃ a xs0, x = .ref a ∧ H1 a = some (dHO c a xs0) ∧ ty σ H1 fun y H2 => tx σ H2 fun z H3 =>
  ∃ Hf ks xs k, Same Hf H3 ∧ H3 a = some (dHO c a xs) ∧ (keysOf ks = some (xs.map (·.1)) ∧ ks.all D.tkey = true) ∧ Dens c Hf ks (xs.map fun x => V.ref x.2.1) ∧ Den c Hf k y ∧ k.tkey = true ∧ xs.length < 16777215 ∧
    ∀ nk ka, keyOf k = some nk → y = .ref ka → match lookX nk xs with
      | some v => Q v H3
      | none => Q z (upd H3 a (dHO c a (xs ++ [(nk, ka, z)])))
section
variable {X : Cx} {o e f : Expr} {td ty tx : TE} {apos cpos : Pos}
theorem pe_setdN (hu : X.A.units + 65 < cLine) (ho : PE X o td) (he : PE X e ty) (hf : PE X f tx) (m : M2 X o "setdefault" apos e f cpos) : PE X (.Call (.Attribute o "setdefault" apos) [e, f] [] cpos) (tSetdN (ctx X) td ty tx) := by
  refine ⟨fun pins s σ H Q I h => ?_⟩
  refine wpAny_Call_method m.base m.few m.line PySem.F.plainAttrs_dict PySem.F.slot_dict_setdefault PySem.F.type_dict_setdefault (thn (ho.run pins s σ H _ I h) fun u s1 ⟨x, H1, I1, rx, a, xs0, ex, d, q1⟩ => ?_)
  subst ex
  obtain rfl : u = Value.ref a := rx
  obtain ⟨⟨_, _, _, _, _, ob, es, ep, z5, z6, _⟩, _, _⟩ := (show ObjOk X.prog X.w H1 s1.heap a (dHO (ctx X) a xs0) from I1.hok a _ d)
  refine ⟨⟨ob, z5, z6.1⟩, fun b q => ?_, ?_⟩
  · cases q
    exact ⟨ob, z5, z6.2.1⟩
  rw [m.trees]
  refine Calls.callWith_builtin rfl (Calls.evalArgs_plain (Calls.spliced_cons (thn (he.run pins s1 σ H1 _ I1 q1) fun iv s2 ⟨y, H2, I2, ry, q2⟩ =>
    Calls.spliced_cons (thn (hf.run pins s2 σ H2 _ I2 q2) fun fv s3 ⟨z, H3, I3, rz, Hf, ks, xs, k, sm, hH, hk, d1, dk, tk, hl, q3⟩ => Calls.spliced_nil ?_))))
  obtain ⟨nk, ka, e4, rfl, hkk⟩ := key_is I3 sm tk dk
  obtain rfl : iv = Value.ref ka := ry
  obtain ⟨ys, w1, w2, w3, w4⟩ := dict_at I3 sm hH hk d1
  have q3 := q3 nk ka e4 rfl
  have lp := look_paired (nk := nk) w2
  have hnd : (xs.map (·.1)).Nodup := by
    obtain ⟨⟨_, _, z3, _⟩, _⟩ := (show ObjOk X.prog X.w H3 s3.heap a (dHO (ctx X) a xs) from I3.hok a _ hH)
    exact z3
  refine call_setdefault_heap (knd := nestedKind X.prog X.w) (by show X.A.units + 1 + 8 < cLine; omega) hkk w3 w1 (fun p hp => ?_) (fun hn h' m' hs => ?_) (hsz := by rw [← paired_len w2]; exact w4)
  · cases q : lookX nk xs with
    | none =>
      rw [q] at lp
      rw [lp] at hp
      cases hp
    | some v =>
      rw [q] at lp q3
      obtain ⟨p', e5, e6⟩ := lp
      rw [e5] at hp
      cases hp
      exact ⟨v, H3, I3.tok _, e6, q3⟩
  · cases q : lookX nk xs with
    | some v =>
      rw [q] at lp
      obtain ⟨p', e5, _⟩ := lp
      rw [e5] at hn
      cases hn
    | none =>
      rw [q] at q3
      rw [storedH_new hn] at m'
      have hp : Paired PrX (xs ++ [(nk, ka, z)]) (ys ++ [(nk, ka, fv)]) := by
        have key : ∀ {xs : List (NestedKey × Addr × V)} {ys : List (NestedKey × Addr × Value)}, Paired PrX xs ys → Paired PrX (xs ++ [(nk, ka, z)]) (ys ++ [(nk, ka, fv)]) := by
          intro xs ys w2
          induction w2 with
          | nil => exact .cons ⟨rfl, rfl, rz⟩ .nil
          | cons h t ih => exact .cons h ih
        exact key w2
      have hz : (xs ++ [(nk, ka, z)]).length ≤ sizeLine := by
        rw [List.length_append, sizeLine_eq]
        simp only [List.length_cons, List.length_nil]
        omega
      have hnk : nk ∉ xs.map (·.1) := fun hm => by
        have : ∀ xs : List (NestedKey × Addr × V), nk ∈ xs.map (·.1) → lookX nk xs ≠ none := by
          intro xs
          induction xs with
          | nil => intro h; cases h
          | cons x xs ih =>
            intro h
            unfold lookX
            by_cases e : x.1 = nk
            · rw [if_pos e]; simp
            · rw [if_neg e]
              exact ih ((List.mem_cons.mp (by simpa using h : nk ∈ x.1 :: xs.map (·.1))).resolve_left fun w => e w.symm)
        exact this xs hm q
      have hnd2 : ((xs ++ [(nk, ka, z)]).map (·.1)).Nodup := by
        rw [List.map_append, List.nodup_append]
        refine ⟨hnd, by simp, fun p1 hp1 q1 hq1 => ?_⟩
        simp at hq1
        subst hq1
        exact fun w => hnk (w ▸ hp1)
      have he' : ∃ u, h'.get? a = some u := let ⟨o, _, _, z, _⟩ := m'; ⟨o, z⟩
      exact ⟨z, upd H3 a (dHO (ctx X) a (xs ++ [(nk, ka, z)])), I3.write (x := a) (e := a) (t' := s3.toks + (nestedKind X.prog X.w).draws nk) (by rw [hH]; trivial) (.inl rfl) (fun b u hb hu => (hs.2 b hb).trans hu) he' (dict_laid m' hp w3 hz hnd2), rz, q3⟩
end

/-! ### the rows so far -/
def gR (G : Addr → Option HO) (rs : List (Addr × List V)) (b : Addr) : Option HO := match rs.find? fun p => decide (p.1 = b) with
  | some p => some (.lst p.2)
  | none => G b
theorem gR_out {G : Addr → Option HO} {rs : List (Addr × List V)} {b : Addr} (h : b ∉ rs.map (·.1)) : gR G rs b = G b := by
  unfold gR
  rw [List.find?_eq_none.mpr fun p hp z => h (by simp at z; exact z ▸ List.mem_map_of_mem hp)]
theorem gR_cons {G : Addr → Option HO} {p : Addr × List V} {rs : List (Addr × List V)} {b : Addr} : gR G (p :: rs) b = if p.1 = b then some (.lst p.2) else gR G rs b := by
  unfold gR
  rw [List.find?_cons]
  by_cases e : p.1 = b
  · simp [e]
  · simp [e]
theorem gR_at {G : Addr → Option HO} : ∀ {rs : List (Addr × List V)} {q : Nat} {p : Addr × List V}, (rs.map (·.1)).Nodup → rs[q]? = some p → gR G rs p.1 = some (.lst p.2)
  | [], q, p, _, h => by simp at h
  | x :: rs, 0, p, _, h => by
    simp at h
    subst h
    rw [gR_cons, if_pos rfl]
  | x :: rs, q + 1, p, nd, h => by
    have h : rs[q]? = some p := by simpa using h
    have nd : x.1 ∉ rs.map (·.1) ∧ (rs.map (·.1)).Nodup := by simpa using nd
    have hne : ¬ x.1 = p.1 := fun z => nd.1 (z ▸ List.mem_map_of_mem (List.mem_of_getElem? h))
    rw [gR_cons, if_neg hne]
    exact gR_at nd.2 h
theorem gR_set {G : Addr → Option HO} {b : Addr} {l l' : List V} {b' : Addr} : ∀ {rs : List (Addr × List V)} {q : Nat}, (rs.map (·.1)).Nodup → rs[q]? = some (b, l) → gR G (rs.set q (b, l')) b' = if b = b' then some (.lst l') else gR G rs b'
  | [], q, _, h => by simp at h
  | x :: rs, 0, nd, h => by
    simp at h
    subst h
    rw [List.set_cons_zero, gR_cons]
    by_cases e : b = b'
    · rw [if_pos e, if_pos e]
    · rw [if_neg e, if_neg e, gR_cons, if_neg e]
  | x :: rs, q + 1, nd, h => by
    have h : rs[q]? = some (b, l) := by simpa using h
    have nd : x.1 ∉ rs.map (·.1) ∧ (rs.map (·.1)).Nodup := by simpa using nd
    have hne : ¬ x.1 = b := fun z => nd.1 (z ▸ List.mem_map_of_mem (f := (·.1)) (List.mem_of_getElem? h))
    rw [List.set_cons_succ, gR_cons, gR_set nd.2 h, gR_cons]
    by_cases e : b = b'
    · rw [if_pos e, if_neg (fun z => hne (z.trans e.symm)), if_pos e]
    · rw [if_neg e, if_neg e]
theorem gR_app {G : Addr → Option HO} {b b' : Addr} {l : List V} : ∀ {rs : List (Addr × List V)}, gR G (rs ++ [(b, l)]) b' = if b' ∈ rs.map (·.1) then gR G rs b' else if b = b' then some (.lst l) else G b'
  | [] => by
    rw [List.nil_append, gR_cons]
    simp [gR]
  | x :: rs => by
    rw [List.cons_append, gR_cons, gR_app, gR_cons]
    by_cases e : x.1 = b'
    · rw [if_pos e, if_pos (by simp [e])]
      rw [if_pos e]
    · rw [if_neg e]
      by_cases hm : b' ∈ rs.map (·.1)
      · rw [if_pos hm, if_pos (by rw [List.map_cons]; exact List.mem_cons_of_mem _ hm), if_neg e]
      · have hm2 : b' ∉ (x :: rs).map (·.1) := by
          rw [List.map_cons]
          exact fun z => (List.mem_cons.mp z).elim (fun w => e w.symm) hm
        rw [if_neg hm, if_neg hm2]
def Fr.rows (F : Fr) (c : Ct) (i : Nat) (a : Addr) (xs : List (NestedKey × Addr × V)) (rs : List (Addr × List V)) : Fr :=
  { F with L := fun j b o => F.L j b o ∨ (j = i ∧ b = a ∧ o = some (.adr 0)), G := fun b => if b = a then some (dHO c a xs) else gR F.G rs b }
section
variable {c : Ct} {F : Fr} {ρ ρ' : Rho} {σ σ' : St} {H H' Hf Hf' : Hp} {a b : Addr} {o : HO} {i j : Nat}
theorem R.weakG (r : R c F ρ σ H Hf) (G' : Addr → Option HO) (h : ∀ b u, G' b = some u → F.G b = some u) : R c { F with G := G' } ρ σ H Hf :=
  ⟨r.len, r.sub, r.subf, r.live, r.keep, r.out, r.im, r.own, r.dist, r.ow, r.io, r.pin, r.brL, fun b u q => r.grd b u (h b u q)⟩
/-- an object is written; it is guarded as it is now -/
theorem R.touchG (r : R c F ρ σ H Hf) (h1 : Hf a = none) (h2 : F.H0 a = none) (h3 : ∀ i, ¬ OwnAt ρ σ i a) (G' : Addr → Option HO) (hG : ∀ b u, G' b = some u → (b = a ∧ u = o) ∨ (b ≠ a ∧ F.G b = some u)) : R c { F with G := G' } ρ σ (upd H a o) Hf := by
  have r1 := (r.weakG (fun _ => none) fun b u z => (by cases z)).touch (o := o) h1 h2 h3 rfl
  refine ⟨r1.len, r1.sub, r1.subf, r1.live, r1.keep, r1.out, r1.im, r1.own, r1.dist, r1.ow, r1.io, r1.pin, r1.brL, fun b u q => ?_⟩
  rcases hG b u q with ⟨rfl, rfl⟩ | ⟨hne, hg⟩
  · exact ⟨upd_same, h1, h3⟩
  · obtain ⟨q1, q2, q3⟩ := r.grd b u hg
    exact ⟨by rw [upd_ne hne]; exact q1, q2, q3⟩
structure Rws (c : Ct) (F : Fr) (i : Nat) (a : Addr) (ks : List D) (vs : List (List D)) (xs : List (NestedKey × Addr × V)) (rs : List (Addr × List V)) (Hf : Hp) : Prop where
  hk : keysOf ks = some (xs.map (·.1)) ∧ ks.all D.tkey = true
  dk : Dens c Hf ks (xs.map fun x => V.ref x.2.1)
  vals : xs.map (·.2.2) = rs.map fun p => V.ref p.1
  lv : vs.length = rs.length
  rows : ∀ (q : Nat) (w : List D) (p : Addr × List V), vs[q]? = some w → rs[q]? = some p → Dens c Hf w p.2
  nd : (rs.map (·.1)).Nodup
  na : a ∉ rs.map (·.1)
  h0a : F.H0 a = none
  h0 : ∀ p ∈ rs, F.H0 p.1 = none
  ga : F.G a = none
  g0 : ∀ p ∈ rs, F.G p.1 = none
  nL : ∀ b o, ¬ F.L i b o
theorem Rws.mono {ks : List D} {vs : List (List D)} {xs : List (NestedKey × Addr × V)} {rs : List (Addr × List V)} (h : Rws c F i a ks vs xs rs Hf) (s : Same Hf Hf') : Rws c F i a ks vs xs rs Hf' :=
  ⟨h.hk, Dens.mono s _ _ h.dk, h.vals, h.lv, fun q w p h1 h2 => Dens.mono s _ _ (h.rows q w p h1 h2), h.nd, h.na, h.h0a, h.h0, h.ga, h.g0, h.nL⟩
theorem Rws.lens {ks : List D} {vs : List (List D)} {xs : List (NestedKey × Addr × V)} {rs : List (Addr × List V)} (h : Rws c F i a ks vs xs rs Hf) : ks.length = xs.length ∧ xs.length = rs.length := by
  refine ⟨?_, ?_⟩
  · have := Dens.length h.dk
    rwa [List.length_map] at this
  · have := congrArg List.length h.vals
    rwa [List.length_map, List.length_map] at this
/-- into the loop -/
theorem rows_in (r : R c F ρ σ H Hf) (h : ρ[i]? = some (.ow (.dic [] []))) : ∃ a, R c (F.rows c i a [] []) (ρ.set i .hid) σ H Hf ∧ Rws c F i a [] [] [] [] Hf := by
  obtain ⟨a, w1, w2⟩ := r.own i _ _ h rfl
  have w20 := w2
  obtain ⟨hn, xs, hH, hk, d1, d2⟩ := w2
  have hxs : xs = [] := by
    cases xs with
    | nil => rfl
    | cons x xs => cases d2
  subst hxs
  have h0 := r.ow i _ a h w1
  have hg : F.G a = none := by
    cases z : F.G a with
    | none => rfl
    | some u => exact ((r.grd a u z).2.2 i ⟨_, _, h, rfl, w1⟩).elim
  have ra : R c { F with L := fun j b o => F.L j b o ∨ (j = i ∧ b = a ∧ o = some (.adr 0)) } (ρ.set i .hid) σ H Hf := by
    refine r.relabel (by simp) rfl rfl rfl (fun k d e => ?_) (fun a o h m => r.keep a o h m) (fun k d e => ?_) (fun k e d h1 h2 => ?_) (fun k d b h1 h2 => ?_) (fun k d b h1 h2 => ?_) (fun k b o e => ?_)
    · rcases get_set e with ⟨rfl, e, _⟩ | ⟨hne, e⟩
      · cases e
      · obtain ⟨b, w⟩ := r.brL k d e
        exact ⟨b, .inl w⟩
    · rcases get_set e with ⟨rfl, e, _⟩ | ⟨hne, e⟩
      · cases e
      · exact e
    · rcases get_set h1 with ⟨rfl, e, _⟩ | ⟨hne, e⟩
      · subst e; cases h2
      · exact ⟨_, e, h2⟩
    · rcases get_set h1 with ⟨rfl, e, _⟩ | ⟨hne, e⟩
      · cases e
      · exact r.ow k d b e h2
    · rcases get_set h1 with ⟨rfl, e, _⟩ | ⟨hne, e⟩
      · cases e
      · exact r.io k d b e h2
    · rcases e with e | ⟨rfl, rfl, rfl⟩
      · obtain ⟨z1, en, z2, z3⟩ := r.pin k b o e
        have hne := r.nopin h (.inr (.inr ⟨_, rfl⟩)) k b o e
        exact ⟨z1, en, by rw [List.getElem?_set_ne (Ne.symm hne)]; exact z2, z3⟩
      · exact ⟨w1, .hid, List.getElem?_set_self (lt_of_get h), rfl⟩
  have rb := ra.guard (a := a) (o := dHO c a []) hH hn (fun k ⟨e, d, z1, z2, z3⟩ => by
    rcases get_set z1 with ⟨rfl, e', _⟩ | ⟨hne, e'⟩
    · subst e'; cases z2
    · exact hne (r.dist i k a ⟨_, _, h, rfl, w1⟩ ⟨e, d, e', z2, z3⟩))
  exact ⟨a, rb, ⟨⟨rfl, rfl⟩, rfl, rfl, rfl, fun q w p h => by simp at h, by simp, by simp, h0, fun p hp => (by cases hp), hg, fun p hp => (by cases hp), fun b o z => r.nopin h (.inr (.inr ⟨_, rfl⟩)) i b o z rfl⟩⟩
theorem rows_pin {xs : List (NestedKey × Addr × V)} {rs : List (Addr × List V)} (r : R c (F.rows c i a xs rs) ρ σ H Hf) : σ[i]? = some (some (.ref a)) ∧ ρ[i]? = some .hid := by
  obtain ⟨w1, e, w2, w3⟩ := r.pin i a (some (.adr 0)) (.inr ⟨rfl, rfl, rfl⟩)
  have w3 : e = .hid := w3
  subst w3
  exact ⟨w1, w2⟩
theorem rows_dict {xs : List (NestedKey × Addr × V)} {rs : List (Addr × List V)} (r : R c (F.rows c i a xs rs) ρ σ H Hf) : H a = some (dHO c a xs) ∧ Hf a = none ∧ ∀ k, ¬ OwnAt ρ σ k a :=
  r.grd a _ (by show (if a = a then some (dHO c a xs) else _) = _; rw [if_pos rfl])
theorem rows_row {xs : List (NestedKey × Addr × V)} {rs : List (Addr × List V)} {q : Nat} {p : Addr × List V} (r : R c (F.rows c i a xs rs) ρ σ H Hf) (nd : (rs.map (·.1)).Nodup) (na : a ∉ rs.map (·.1)) (h : rs[q]? = some p) : H p.1 = some (.lst p.2) ∧ Hf p.1 = none ∧ ∀ k, ¬ OwnAt ρ σ k p.1 :=
  r.grd p.1 _ (by
    have hne : p.1 ≠ a := fun z => na (z ▸ List.mem_map_of_mem (f := (·.1)) (List.mem_of_getElem? h))
    show (if p.1 = a then _ else gR F.G rs p.1) = _
    rw [if_neg hne]
    exact gR_at nd h)
/-- a row grows -/
theorem rows_app {ks : List D} {vs : List (List D)} {xs : List (NestedKey × Addr × V)} {rs : List (Addr × List V)} {q : Nat} {w : List D} {l : List V} {d : D} {v : V} (r : R c (F.rows c i a xs rs) ρ σ H Hf) (h : Rws c F i a ks vs xs rs Hf)
    (h1 : vs[q]? = some w) (h2 : rs[q]? = some (b, l)) (dv : Den c Hf d v) : R c (F.rows c i a xs (rs.set q (b, l ++ [v]))) ρ σ (upd H b (.lst (l ++ [v]))) Hf ∧ Rws c F i a ks (vs.set q (w ++ [d])) xs (rs.set q (b, l ++ [v])) Hf := by
  obtain ⟨w1, w2, w3⟩ := rows_row r h.nd h.na h2
  have hm := List.mem_of_getElem? h2
  have hb : b ≠ a := fun z => h.na (z ▸ List.mem_map_of_mem (f := (·.1)) hm)
  have e1 : (rs.set q (b, l ++ [v])).map (·.1) = rs.map (·.1) := by
    rw [List.map_set]
    refine List.ext_getElem? fun k => ?_
    by_cases hk : q = k
    · subst hk
      rw [List.getElem?_set_self (by rw [List.length_map]; exact lt_of_get h2), List.getElem?_map, h2]
      rfl
    · rw [List.getElem?_set_ne hk]
  have mem : ∀ p ∈ rs.set q (b, l ++ [v]), p.1 ∈ rs.map (·.1) := fun p hp => by
    rw [← e1]
    exact List.mem_map_of_mem hp
  refine ⟨r.touchG w2 (h.h0 _ hm) w3 _ fun b' u hu => ?_, ⟨h.hk, h.dk, ?_, by simp [h.lv], fun q' w' p' g1 g2 => ?_, by rw [e1]; exact h.nd, by rw [e1]; exact h.na, h.h0a, fun p hp => ?_, h.ga, fun p hp => ?_, h.nL⟩⟩
  · have hu : (if b' = a then some (dHO c a xs) else gR F.G (rs.set q (b, l ++ [v])) b') = some u := hu
    by_cases e : b' = a
    · rw [if_pos e] at hu
      refine .inr ⟨fun z => hb (z.symm.trans e), ?_⟩
      show (if b' = a then some (dHO c a xs) else gR F.G rs b') = some u
      rw [if_pos e]
      exact hu
    · rw [if_neg e, gR_set h.nd h2] at hu
      by_cases e2 : b = b'
      · rw [if_pos e2] at hu
        cases hu
        exact .inl ⟨e2.symm, rfl⟩
      · rw [if_neg e2] at hu
        refine .inr ⟨fun z => e2 z.symm, ?_⟩
        show (if b' = a then some (dHO c a xs) else gR F.G rs b') = some u
        rw [if_neg e]
        exact hu
  · have e2 : ∀ rs : List (Addr × List V), (rs.map fun p => V.ref p.1) = (rs.map (·.1)).map V.ref := fun rs => by rw [List.map_map]; rfl
    rw [e2, e1, ← e2]
    exact h.vals
  · rcases get_set g1 with ⟨rfl, e3, _⟩ | ⟨hne, g1⟩
    · rw [List.getElem?_set_self (lt_of_get h2)] at g2
      cases g2
      subst e3
      exact Dens.append (h.rows q w (b, l) h1 h2) (Dens.one dv)
    · rw [List.getElem?_set_ne hne] at g2
      exact h.rows q' w' p' g1 g2
  · obtain ⟨p', hp', e⟩ := List.mem_map.mp (mem p hp)
    rw [← e]
    exact h.h0 p' hp'
  · obtain ⟨p', hp', e⟩ := List.mem_map.mp (mem p hp)
    rw [← e]
    exact h.g0 p' hp'
/-- a new row -/
theorem rows_new {ks : List D} {vs : List (List D)} {xs : List (NestedKey × Addr × V)} {rs : List (Addr × List V)} {k : D} {nk : NestedKey} {ka : Addr} (r : R c (F.rows c i a xs rs) ρ σ H Hf) (h : Rws c F i a ks vs xs rs Hf)
    (hk : keyOf k = some nk) (tk : k.tkey = true) (dk : Den c Hf k (.ref ka)) (hb : H b = none) :
    R c (F.rows c i a (xs ++ [(nk, ka, .ref b)]) (rs ++ [(b, [])])) ρ σ (upd (upd H b (.lst [])) a (dHO c a (xs ++ [(nk, ka, .ref b)]))) Hf ∧ Rws c F i a (ks ++ [k]) (vs ++ [[]]) (xs ++ [(nk, ka, .ref b)]) (rs ++ [(b, [])]) Hf := by
  have r1 := r.allocOwn hb (.lst [])
  obtain ⟨w1, w2, w3⟩ := rows_dict r1
  obtain ⟨v1, _, _⟩ := rows_dict r
  have hba : b ≠ a := fun z => by rw [z, v1] at hb; cases hb
  have hbr : b ∉ rs.map (·.1) := fun z => by
    obtain ⟨p, hp, e⟩ := List.mem_map.mp z
    obtain ⟨q, hq⟩ := List.mem_iff_getElem?.mp hp
    have := (rows_row r h.nd h.na hq).1
    rw [e, hb] at this
    cases this
  have g0b : F.G b = none := by
    cases z : F.G b with
    | none => rfl
    | some u =>
      have e : (F.rows c i a xs rs).G b = some u := by
        show (if b = a then some (dHO c a xs) else gR F.G rs b) = some u
        rw [if_neg hba, gR_out hbr]
        exact z
      have := (r.grd b u e).1
      rw [hb] at this
      cases this
  refine ⟨?_, ⟨?_, ?_, ?_, by simp [h.lv], fun q w p g1 g2 => ?_, ?_, ?_, h.h0a, fun p hp => ?_, h.ga, fun p hp => ?_, h.nL⟩⟩
  · have r2 := r1.touchG (a := a) (o := dHO c a (xs ++ [(nk, ka, .ref b)])) w2 h.h0a w3 (fun b' => if b' = a then some (dHO c a (xs ++ [(nk, ka, .ref b)])) else gR F.G rs b') fun b' u hu => by
      by_cases e : b' = a
      · rw [if_pos e] at hu
        cases hu
        exact .inl ⟨e, rfl⟩
      · rw [if_neg e] at hu
        refine .inr ⟨e, ?_⟩
        show (if b' = a then some (dHO c a xs) else gR F.G rs b') = some u
        rw [if_neg e]
        exact hu
    have fb := r.free hb
    have r3 := r2.guard (a := b) (o := .lst []) (by rw [upd_ne hba, upd_same]) fb.1 (fun k w => r.own_ne w hb rfl)
    refine r3.weakG _ fun b' u hu => ?_
    have hu : (if b' = a then some (dHO c a (xs ++ [(nk, ka, .ref b)])) else gR F.G (rs ++ [(b, [])]) b') = some u := hu
    show (if b' = b then some (HO.lst []) else if b' = a then some (dHO c a (xs ++ [(nk, ka, .ref b)])) else gR F.G rs b') = some u
    by_cases e : b' = a
    · rw [if_pos e] at hu
      rw [if_neg (fun z => hba (z.symm.trans e)), if_pos e]
      exact hu
    · rw [if_neg e, gR_app] at hu
      by_cases e2 : b' ∈ rs.map (·.1)
      · rw [if_pos e2] at hu
        have hne : ¬ b' = b := fun z => hbr (by rw [← z]; exact e2)
        rw [if_neg hne, if_neg e]
        exact hu
      · rw [if_neg e2] at hu
        by_cases e3 : b = b'
        · rw [if_pos e3] at hu
          rw [if_pos e3.symm]
          exact hu
        · rw [if_neg e3] at hu
          rw [if_neg (fun z => e3 z.symm), if_neg e, gR_out e2]
          exact hu
  · have key : ∀ (ks : List D) (nks : List NestedKey), keysOf ks = some nks → keysOf (ks ++ [k]) = some (nks ++ [nk]) := by
      intro ks
      induction ks with
      | nil =>
        intro nks e
        cases e
        exact keysOf_mk hk rfl
      | cons x ks ih =>
        intro nks e
        obtain ⟨a1, b1, e1, e2, rfl⟩ := keysOf_cons e
        exact keysOf_mk e1 (ih _ e2)
    rw [List.map_append]
    refine ⟨key _ _ h.hk.1, ?_⟩
    rw [List.all_append, h.hk.2]
    simp [tk]
  · rw [List.map_append]
    exact Dens.append h.dk (Dens.one dk)
  · rw [List.map_append, List.map_append, h.vals]
    rfl
  · by_cases hq : q < vs.length
    · rw [List.getElem?_append_left hq] at g1
      rw [List.getElem?_append_left (by rw [← h.lv]; exact hq)] at g2
      exact h.rows q w p g1 g2
    · rw [List.getElem?_append_right (by omega)] at g1
      rw [List.getElem?_append_right (by rw [← h.lv]; omega), ← h.lv] at g2
      cases hz : q - vs.length with
      | zero =>
        rw [hz] at g1 g2
        cases g1
        cases g2
        rfl
      | succ n =>
        rw [hz] at g1
        simp at g1
  · rw [List.map_append, List.nodup_append]
    refine ⟨h.nd, by simp, fun p hp q hq => ?_⟩
    simp at hq
    subst hq
    exact fun z => hbr (z ▸ hp)
  · rw [List.map_append, List.mem_append]
    intro z
    rcases z with z | z
    · exact h.na z
    · simp at z
      exact hba z.symm
  · rcases List.mem_append.mp hp with hp | hp
    · exact h.h0 p hp
    · simp at hp
      subst hp
      exact (r.free hb).2
  · rcases List.mem_append.mp hp with hp | hp
    · exact h.g0 p hp
    · simp at hp
      subst hp
      exact g0b
/-- out of the loop: the lists are frozen -/
theorem rows_frz {xs : List (NestedKey × Addr × V)} : ∀ {rs : List (Addr × List V)} {vs : List (List D)} {Hf : Hp}, R c (F.rows c i a xs rs) ρ σ H Hf → (rs.map (·.1)).Nodup → a ∉ rs.map (·.1) → vs.length = rs.length → (∀ (q : Nat) (w : List D) (p : Addr × List V), vs[q]? = some w → rs[q]? = some p → Dens c Hf w p.2) →
    (∀ p ∈ rs, F.H0 p.1 = none) → (∀ p ∈ rs, F.G p.1 = none) → ∃ Hf', R c (F.rows c i a xs []) ρ σ H Hf' ∧ Same Hf Hf' ∧ Dens c Hf' (vs.map D.lst) (rs.map fun p => V.ref p.1)
  | [], vs, Hf, r, _, _, hl, _, _, _ => by
    have : vs = [] := List.length_eq_zero_iff.mp hl
    subst this
    exact ⟨Hf, r, Same.refl _, rfl⟩
  | p :: rs, vs, Hf, r, nd, na, hl, hr, h0, g0 => by
    cases vs with
    | nil => simp at hl
    | cons w vs =>
      have rr := rows_row r nd na (q := 0) rfl
      have nd' : p.1 ∉ rs.map (·.1) ∧ (rs.map (·.1)).Nodup := by simpa using nd
      have na' : ¬ a = p.1 ∧ a ∉ rs.map (·.1) := by
        constructor
        · exact fun z => na (by rw [z]; simp)
        · exact fun z => na (by rw [List.map_cons]; exact List.mem_cons_of_mem _ z)
      have r1 : R c (F.rows c i a xs rs) ρ σ H Hf := by
        refine r.weakG (fun b => if b = a then some (dHO c a xs) else gR F.G rs b) fun b u hu => ?_
        show (if b = a then some (dHO c a xs) else gR F.G (p :: rs) b) = some u
        by_cases e : b = a
        · rw [if_pos e] at hu ⊢; exact hu
        · rw [if_neg e] at hu ⊢
          rw [gR_cons]
          by_cases e2 : p.1 = b
          · exfalso
            rw [← e2, gR_out nd'.1, g0 p List.mem_cons_self] at hu
            cases hu
          · rw [if_neg e2]; exact hu
      have hw : Own c Hf H (.lst w) p.1 := ⟨rr.2.1, p.2, rr.1, hr 0 w p rfl rfl⟩
      obtain ⟨Hf1, r2, s2, dn⟩ := r1.freeze hw (h0 p List.mem_cons_self) rr.2.2 (by
        show (if p.1 = a then some (dHO c a xs) else gR F.G rs p.1) = none
        rw [if_neg (fun z => na'.1 z.symm), gR_out nd'.1]
        exact g0 p List.mem_cons_self)
      obtain ⟨Hf2, r3, s3, ds⟩ := rows_frz r2 nd'.2 na'.2 (by simpa using hl) (fun q w' p' g1 g2 => Dens.mono s2 _ _ (hr (q + 1) w' p' (by simpa using g1) (by simpa using g2)))
        (fun p' hp' => h0 p' (List.mem_cons_of_mem _ hp')) (fun p' hp' => g0 p' (List.mem_cons_of_mem _ hp'))
      exact ⟨Hf2, r3, s2.trans s3, Dens.cons_iff.mpr ⟨Den.mono s3 _ _ dn, ds⟩⟩
theorem rows_out' {ks : List D} {vs : List (List D)} {xs : List (NestedKey × Addr × V)} {rs : List (Addr × List V)} (r : R c (F.rows c i a xs rs) ρ σ H Hf) (h : Rws c F i a ks vs xs rs Hf) :
    ∃ Hf', R c F (ρ.set i (.im (.dic ks (vs.map .lst)))) σ H Hf' ∧ Same Hf Hf' := by
  obtain ⟨Hf1, r1, s1, ds⟩ := rows_frz r h.nd h.na h.lv h.rows h.h0 h.g0
  obtain ⟨p1, p2⟩ := rows_pin r1
  obtain ⟨q1, q2, q3⟩ := rows_dict r1
  have r2 : R c { F.rows c i a xs [] with G := F.G } ρ σ H Hf1 := r1.weakG F.G fun b u hu => by
    show (if b = a then some (dHO c a xs) else gR F.G [] b) = some u
    by_cases e : b = a
    · rw [e, h.ga] at hu; cases hu
    · rw [if_neg e]; exact hu
  have r3 : R c F (ρ.set i .un) σ H Hf1 := by
    refine r2.relabel (by simp) rfl rfl rfl (fun k d e => ?_) (fun a o h m => r2.keep a o h m) (fun k d e => ?_) (fun k e d h1 h2 => ?_) (fun k d b h1 h2 => ?_) (fun k d b h1 h2 => ?_) (fun k b o e => ?_)
    · rcases get_set e with ⟨rfl, e, _⟩ | ⟨hne, e⟩
      · cases e
      · obtain ⟨b, w⟩ := r2.brL k d e
        rcases w with w | ⟨rfl, _, _⟩
        · exact ⟨b, w⟩
        · exact absurd rfl hne
    · rcases get_set e with ⟨rfl, e, _⟩ | ⟨hne, e⟩
      · cases e
      · exact e
    · rcases get_set h1 with ⟨rfl, e, _⟩ | ⟨hne, e⟩
      · subst e; cases h2
      · exact ⟨_, e, h2⟩
    · rcases get_set h1 with ⟨rfl, e, _⟩ | ⟨hne, e⟩
      · cases e
      · exact r2.ow k d b e h2
    · rcases get_set h1 with ⟨rfl, e, _⟩ | ⟨hne, e⟩
      · cases e
      · exact r2.io k d b e h2
    · obtain ⟨z1, en, z2, z3⟩ := r2.pin k b o (.inl e)
      refine ⟨z1, en, ?_, z3⟩
      have hne : i ≠ k := fun z => by
        subst z
        exact h.nL b o e
      rw [List.getElem?_set_ne hne]
      exact z2
  have hw : Own c Hf1 H (.dic ks (vs.map .lst)) a := ⟨q2, xs, q1, h.hk, Dens.mono s1 _ _ h.dk, by rw [h.vals]; exact ds⟩
  obtain ⟨Hf2, r4, s4, dn⟩ := r3.freeze hw h.h0a (fun k ⟨e, d, z1, z2, z3⟩ => by
    rcases get_set z1 with ⟨rfl, e', _⟩ | ⟨hne, e'⟩
    · subst e'; cases z2
    · exact q3 k ⟨e, d, e', z2, z3⟩) h.ga
  have hil : i < ρ.length := lt_of_get p2
  have hs : setE (ρ.set i .un) i (.im (.dic ks (vs.map .lst))) = some ((ρ.set i .un).set i (.im (.dic ks (vs.map .lst)))) := by
    unfold setE
    rw [List.getElem?_set_self hil]
  have r5 := r4.setIm (v := .ref a) hs dn
  rw [List.set_set] at r5
  have e : σ.set i (some (.ref a)) = σ := by
    apply List.ext_getElem?
    intro j
    by_cases e : i = j
    · subst e
      rw [List.getElem?_set_self (lt_of_get p1), p1]
    · rw [List.getElem?_set_ne e]
  rw [e] at r5
  exact ⟨Hf2, r5, s1.trans s4⟩
end
end NV

/-! Nz.E: the loop that makes rows. -/
namespace NV
open PySem PySem.Spec PyProof.Rows L2

theorem look_row {k : D} {nk : NestedKey} {e : D} (hk : keyOf k = some nk) : ∀ {xs : List (NestedKey × Addr × V)} {ks : List D} {vs : List (List D)}, keysOf ks = some (xs.map (·.1)) → vs.length = xs.length → match lookX nk xs with
    | some v => ∃ (q : Nat) (x : NestedKey × Addr × V) (w : List D), xs[q]? = some x ∧ x.2.2 = v ∧ vs[q]? = some w ∧ addRow k e ks vs = (ks, vs.set q (w ++ [e]))
    | none => addRow k e ks vs = (ks ++ [k], vs ++ [[e]])
  | [], ks, vs, h, hl => by
    have hv : vs = [] := List.length_eq_zero_iff.mp hl
    subst hv
    cases ks with
    | nil => rfl
    | cons x ks =>
      obtain ⟨a, b, _, _, z⟩ := keysOf_cons h
      cases z
  | x :: xs, ks, vs, h, hl => by
    cases ks with
    | nil => cases h
    | cons k0 ks =>
      cases vs with
      | nil => simp at hl
      | cons v0 vs =>
        obtain ⟨a, b, e1, e2, e3⟩ := keysOf_cons h
        rw [List.map_cons, List.cons.injEq] at e3
        obtain ⟨e3, e4⟩ := e3
        subst e4
        unfold lookX
        by_cases hkk : k0 = k
        · subst hkk
          rw [hk] at e1
          cases e1
          rw [if_pos e3]
          refine ⟨0, x, v0, rfl, rfl, rfl, ?_⟩
          unfold addRow
          rw [if_pos rfl]
          rfl
        · have hne : ¬ x.1 = nk := fun z => hkk (keyOf_inj _ _ nk (by rw [e1, ← e3, z]) hk)
          rw [if_neg hne]
          have ih := look_row (e := e) hk e2 (show vs.length = xs.length by simpa using hl)
          have e5 : addRow k e (k0 :: ks) (v0 :: vs) = (k0 :: (addRow k e ks vs).1, v0 :: (addRow k e ks vs).2) := by
            show (if k0 = k then _ else _) = _
            rw [if_neg hkk]
          rw [e5]
          cases q : lookX nk xs with
          | none =>
            rw [q] at ih
            rw [ih]
            rfl
          | some v =>
            rw [q] at ih
            obtain ⟨n, x', w, w1, w2, w3, w4⟩ := ih
            refine ⟨n + 1, x', w, by simpa using w1, w2, by simpa using w3, ?_⟩
            rw [w4]
            rfl
section
variable {c : Ct} {W : WX} {fr : Bool} {n i j : Nat} {kk ee : ME}
def tRow4 (c : Ct) (W : WX) (i j : Nat) (kk : ME) : TS := tAsg (tSetdN c (tVar i) (tv c W (ev kk)) (tLst tNil)) (gName j)
def tRow5 (c : Ct) (W : WX) (j : Nat) (ee : ME) : TS := tDrop (tBM c.K "list" rAppend (tVar j) (tCons (tv c W (ev ee)) tNil))
def tBody (c : Ct) (W : WX) (fr : Bool) (n : Nat) (body : List MS) (tail : TS) : TS := fun D σ H => tvS c W fr (evSs n body) { D with nx := tail D } σ H
theorem row_end {F : Fr} {ρ6 ρ7 : Rho} {σ5 : St} {H6 Hf6 : Hp} {a b : Addr} {ks : List D} {vs : List (List D)} {xs : List (NestedKey × Addr × V)} {rs : List (Addr × List V)} {q : Nat} {w : List D} {l : List V} {e : D} {D : Ends}
    (r6 : R c (F.rows c i a xs rs) ρ6 σ5 H6 Hf6) (h6 : Rws c F i a ks vs xs rs Hf6) (hq1 : vs[q]? = some w) (hq2 : rs[q]? = some (b, l)) (hj : σ5[j]? = some (some (.ref b))) (hw : w.length < 16777000) (c7 : ev ee ρ6 = .ok (e, ρ7))
    (k : ∀ v H' Hf', R c (F.rows c i a xs (rs.set q (b, l ++ [v]))) ρ7 σ5 H' Hf' → Rws c F i a ks (vs.set q (w ++ [e])) xs (rs.set q (b, l ++ [v])) Hf' → Same Hf6 Hf' → D.nx σ5 H') : tRow5 c W j ee D σ5 H6 := by
  refine ⟨_, hj, .inl ⟨rfl, l, SqL.of (rows_row r6 h6.nd h6.na hq2).1⟩, ?_⟩
  refine ⟨_, ρ6, Hf6, r6, ?_⟩
  rw [c7]
  intro v H7 Hf7 r7 s7 dv
  have h7 := h6.mono s7
  have hl := Dens.length (h7.rows q w (b, l) hq1 hq2)
  refine ⟨b, l, v, rfl, rfl, (rows_row r7 h7.nd h7.na hq2).1, by rw [sizeLine_eq, ← hl]; omega, ?_⟩
  obtain ⟨w1, w2⟩ := rows_app r7 h7 hq1 hq2 dv
  exact k v _ _ w1 w2 s7
theorem forD_wish {D : Ends} {σ : St} {H : Hp} {tg : Tg} {k : IK} {args : List ME} {body : List MS} (h : tvS c W fr (evS n (.forD tg k args body i j kk ee)) D σ H) :
    tFor (iX c W k args) (gT c tg) (tBody c W fr n body (tSeq (tRow4 c W i j kk) (tRow5 c W j ee))) D σ H := by
  obtain ⟨F, ρ, Hf, r, p⟩ := h
  have p : PostS c F W fr D Hf ((pres args ρ).bind fun x => match (finL args x.1 x.2).bind (iterD k) with
    | none => .stuck
    | some items => match (lockE args x.2)[i]? with
      | some (.ow (.dic [] [])) => unlockO x.2 args (rowLoop (evSs n body) (ev kk) (ev ee) tg i j items [] [] ((lockE args x.2).set i .hid))
      | _ => .stuck) := p
  refine ⟨F, ρ, Hf, r, ?_⟩
  cases q : pres args ρ with
  | stuck => rw [q] at p; exact p.elim
  | exc n ρ' => rw [q] at p; exact fun H' Hf' C r' s' m' => p σ H' Hf' C r' s' m'
  | ok x =>
    obtain ⟨os, ρ1⟩ := x
    rw [q] at p
    have p : PostS c F W fr D Hf (match (finL args os ρ1).bind (iterD k) with
      | none => .stuck
      | some items => match (lockE args ρ1)[i]? with
        | some (.ow (.dic [] [])) => unlockO ρ1 args (rowLoop (evSs n body) (ev kk) (ev ee) tg i j items [] [] ((lockE args ρ1).set i .hid))
        | _ => .stuck) := p
    cases q2 : (finL args os ρ1).bind (iterD k) with
    | none => rw [q2] at p; exact p.elim
    | some items =>
      rw [q2] at p
      dsimp only at p
      refine ⟨items, q2, fun H1 Hf1 J r1 s1 it => ?_⟩
      split at p
      · rename_i q3
        obtain ⟨a, rr0, hr0⟩ := rows_in (r1.lock args) q3
        refine ⟨fun m mm σ' H' => mm = items.length - m ∧ m ≤ items.length ∧ ∃ ρi Hfi ks vs xs rs, R c ((F.lock args ρ1 σ).rows c i a xs rs) ρi σ' H' Hfi ∧ Rws c (F.lock args ρ1 σ) i a ks vs xs rs Hfi ∧ Same Hf1 Hfi ∧
            rowLoop (evSs n body) (ev kk) (ev ee) tg i j (items.drop m) ks vs ρi = rowLoop (evSs n body) (ev kk) (ev ee) tg i j items [] [] ((lockE args ρ1).set i .hid),
          ⟨items.length, by simp, Nat.zero_le _, _, Hf1, [], [], [], [], rr0, hr0, Same.refl _, rfl⟩, ?_⟩
        rintro m mm σ' Hi ⟨rfl, hi, ρi, Hfi, ks, vs, xs, rs, ri, hri, si, ei⟩
        have iti := it _ ρi σ' Hi Hfi ri si (fun j a d h1 h2 => .inl (.inr ⟨d, rfl, h1, h2⟩)) m
        by_cases hlt : m < items.length
        · refine .inr ⟨(iti.1 items[m] (List.getElem?_eq_getElem hlt)).1, ?_⟩
          have hdrop : items.drop m = items[m] :: items.drop (m + 1) := List.drop_eq_getElem_cons hlt
          rw [hdrop] at ei
          refine ⟨fun σ' H' => ∃ ρi Hfi ks vs xs rs, R c ((F.lock args ρ1 σ).rows c i a xs rs) ρi σ' H' Hfi ∧ Rws c (F.lock args ρ1 σ) i a ks vs xs rs Hfi ∧ Same Hf1 Hfi ∧
              rowLoop (evSs n body) (ev kk) (ev ee) tg i j (items.drop (m + 1)) ks vs ρi = rowLoop (evSs n body) (ev kk) (ev ee) tg i j items [] [] ((lockE args ρ1).set i .hid),
            fun σ2 H2 n2 => ⟨items.length - (m + 1), by omega, rfl, hlt, n2⟩, fun x H2 y => ?_⟩
          obtain ⟨Hf2, r2, s2, d2⟩ := (iti.1 items[m] (List.getElem?_eq_getElem hlt)).2 x H2 y
          rw [rowLoop] at ei
          cases c3 : setT tg items[m] ρi with
          | none =>
            rw [c3] at ei
            rw [← ei] at p
            exact p.elim
          | some ρ3 =>
            rw [c3] at ei
            dsimp only at ei
            refine gT_ok r2 d2 c3 fun σ2 r3 _ => ⟨_, ρ3, Hf2, r3, ?_⟩
            cases c4 : evSs n body ρ3 with
            | stuck =>
              rw [c4] at ei
              rw [← ei] at p
              exact p.elim
            | exc nm ρ4 =>
              rw [c4] at ei
              rw [← ei] at p
              exact p.elim
            | ok z =>
              obtain ⟨f, ρ4⟩ := z
              rw [c4] at ei
              cases f with
              | ret d =>
                dsimp only at ei
                rw [← ei] at p
                exact p.elim
              | nx =>
                dsimp only at ei
                intro σ4 H4 Hf4 r4 s4
                have h4 := hri.mono (s2.trans s4)
                cases c5 : ev kk ρ4 with
                | stuck => rw [c5] at ei; rw [← ei] at p; exact p.elim
                | exc _ _ => rw [c5] at ei; rw [← ei] at p; exact p.elim
                | ok z =>
                  obtain ⟨kd, ρ5⟩ := z
                  rw [c5] at ei
                  dsimp only at ei
                  cases c6 : setE ρ5 j .un with
                  | none => rw [c6] at ei; rw [← ei] at p; exact p.elim
                  | some ρ6 =>
                    rw [c6] at ei
                    dsimp only at ei
                    cases c7 : ev ee ρ6 with
                    | stuck => rw [c7] at ei; rw [← ei] at p; exact p.elim
                    | exc _ _ => rw [c7] at ei; rw [← ei] at p; exact p.elim
                    | ok z =>
                      obtain ⟨e, ρ7⟩ := z
                      rw [c7] at ei
                      dsimp only at ei
                      split at ei
                      · rename_i hcond
                        obtain ⟨tk, hlk, hlv⟩ := hcond
                        obtain ⟨pin4, _⟩ := rows_pin r4
                        refine ⟨_, pin4, a, xs, rfl, (rows_dict r4).1, ?_⟩
                        refine ⟨_, ρ4, Hf4, r4, ?_⟩
                        rw [c5]
                        intro y H5 Hf5 r5 s5 dk
                        have h5 := h4.mono s5
                        obtain ⟨l1, l2⟩ := h5.lens
                        refine ⟨by simp, fun b hb => ?_⟩
                        have r5a := r5.allocOwn hb (.lst [])
                        have hba : a ≠ b := fun z => by
                          have := (rows_dict r5).1
                          rw [z, hb] at this
                          cases this
                        have hj0 : j < σ4.length := by
                          obtain ⟨_, z, _⟩ := setE_some c6
                          rw [← r5.len]
                          exact z
                        refine ⟨Hf5, ks, xs, kd, r5a.sub, (rows_dict r5a).1, h5.hk, h5.dk, dk, tk, by omega, fun nk ka hnk hy => ?_⟩
                        subst hy
                        have lr := look_row (e := e) hnk h5.hk.1 (show vs.length = xs.length by rw [h5.lv, l2])
                        cases ql : lookX nk xs with
                        | some v =>
                          rw [ql] at lr
                          obtain ⟨qi, xx, w, w1, w2, w3, w4⟩ := lr
                          have hr : ∃ p, rs[qi]? = some p := by
                            have := lt_of_get w1
                            exact ⟨rs[qi], List.getElem?_eq_getElem (by omega)⟩
                          obtain ⟨⟨bq, l⟩, hr⟩ := hr
                          have hv : v = .ref bq := by
                            have e1 : (xs.map (·.2.2))[qi]? = some v := by rw [List.getElem?_map, w1, ← w2]; rfl
                            rw [h5.vals, List.getElem?_map, hr] at e1
                            cases e1
                            rfl
                          have hset := r5a.setUn (x := some v) c6
                          show tRow5 c W j ee _ (σ4.set j (some v)) _
                          refine row_end hset h5 w3 hr (by rw [List.getElem?_set_self hj0, hv]) (hlv w (List.mem_of_getElem? w3)) c7 fun v' H' Hf' r8 h8 s8 => ?_
                          refine ⟨ρ7, Hf', ks, _, xs, _, r8, h8, si.trans (s2.trans (s4.trans (s5.trans s8))), ?_⟩
                          rw [w4] at ei
                          exact ei
                        | none =>
                          rw [ql] at lr
                          obtain ⟨r9, h9⟩ := rows_new r5 h5 hnk tk dk hb
                          have hset := r9.setUn (x := some (V.ref b)) c6
                          show tRow5 c W j ee _ (σ4.set j (some (V.ref b))) _
                          have hq1 : (vs ++ [[]])[vs.length]? = some ([] : List NV.D) := by simp
                          have hq2 : (rs ++ [(b, ([] : List V))])[vs.length]? = some (b, []) := by rw [h5.lv]; simp
                          refine row_end hset h9 hq1 hq2 (by rw [List.getElem?_set_self hj0]) (by simp) c7 fun v' H' Hf' r8 h8 s8 => ?_
                          refine ⟨ρ7, Hf', _, _, _, _, r8, h8, si.trans (s2.trans (s4.trans (s5.trans s8))), ?_⟩
                          rw [lr] at ei
                          have e2 : (vs ++ [[]]).set vs.length ([] ++ [e]) = vs ++ [[e]] := by
                            rw [List.set_append_right _ _ (Nat.le_refl _)]
                            simp
                          rw [e2]
                          exact ei
                      · rw [← ei] at p; exact p.elim
        · have hil : m = items.length := by omega
          subst hil
          refine .inl ⟨iti.2 (Nat.le_refl _), ?_⟩
          rw [List.drop_length, rowLoop] at ei
          rw [← ei] at p
          obtain ⟨Hf9, r9, s9⟩ := rows_out' ri hri
          exact p σ' Hi Hf9 (r1.unlock r9) (s1.trans (si.trans s9))
      · exact p.elim
end
section
variable {X : Cx} {W : WX} {fr : Bool} {n i j : Nat} {kk ee : ME} {pos : Pos} {st : Stmt} {sts : List Stmt} {m : MS} {ms : List MS} {tail : TS}
structure SndD (X : Cx) (W : WX) (fr : Bool) (n : Nat) (sts : List Stmt) (ms : List MS) (tail : TS) : Prop where
  ps : PSs X sts (tBody (ctx X) W fr n ms tail)
theorem sd_nil (h : PSs X sts tail) : SndD X W fr n sts [] tail := ⟨PSs.mono h fun D σ H ⟨F, ρ, Hf, r, p⟩ => p σ H Hf r (Same.refl _)⟩
theorem sd_cons (h : SndS X W fr n st m) (t : SndD X W fr n sts ms tail) : SndD X W fr n (st :: sts) (m :: ms) tail := ⟨PSs.mono (pss_cons h.ps t.ps) fun D σ H q => seq_wish q⟩
/-- row = found.setdefault(k, []); row.append(e) -/
theorem sd_rows {fo ro kx lx : Expr} {x : Str} {p1 p2 lp ap cp ap2 cp2 sp1 sp2 : Pos} (hu : X.A.units + 65 < cLine) (hfo : PE X fo (tVar i)) (hro : PE X ro (tVar j)) (hk : Snd X W kx kk) (he : Snd X W lx ee) (hg : PG X (.Name x p1) (gName j))
    (m : M2 X fo "setdefault" ap kx (.List [] lp) cp)
    (hs : swapsWithSole [.Name x p1] (.Call (.Attribute fo "setdefault" ap) [kx, .List [] lp] [] cp) sp1.line X.env = pure false) (hw : swappedStores [.Name x p1] (.Call (.Attribute fo "setdefault" ap) [kx, .List [] lp] [] cp) X.env = pure none) (h1 : (assignEach [.Name x p1] X.env).map (·.2) = [assign (.Name x p1) X.env])
    (hb : attributeBase ro "append" X.env (eval ro X.env) = eval ro X.env)
    (hfew : ((backTo cp2 (starEach (lx :: []) X.env)).all (fun x => !x.1) && (backToKw cp2 (keywordEach [] X.env)).all (fun x => x.1.isSome)
      && decide ((lx :: []).length + ([] : List Keyword).length + (if ([] : List Keyword).isEmpty then 0 else 1) < 30)) = true)
    (hline : (ap2.endLine == cp2.line) = true) (hst : starEach (lx :: []) X.env = (false, eval lx X.env) :: starEach [] X.env) (hplain : (backTo cp2 (starEach [] X.env)).any (·.1) = false)
    (hsw : swapsWith (.Call (.Attribute ro "append" ap2) [lx] [] cp2) none sp2.line X.env = pure false) :
    SndD X W fr n [.Assign [.Name x p1] (.Call (.Attribute fo "setdefault" ap) [kx, .List [] lp] [] cp) sp1, .Expr (.Call (.Attribute ro "append" ap2) [lx] [] cp2) sp2] [] (tSeq (tRow4 (ctx X) W i j kk) (tRow5 (ctx X) W j ee)) :=
  sd_nil (pss_cons (ps_asg (pe_setdN hu hfo hk.pe (pe_lst pa_nil) m) hg hs hw h1) (pss_one (ps_expr (pe_bm PySem.F.plainAttrs_list PySem.F.slot_list_append PySem.F.type_list_append mt_append hro (pa_cons he.pe pa_nil hst) hb hfew hline hst hplain) hsw)))
theorem ss_forD {tgx iter : Expr} {tg : Tg} {k : IK} {args : List ME} {b : List Stmt} {mb : List MS} (hp : PassesOwn (model X.prog X.w) X.A X.env X.xe) (hc : X.calm = true) (hi : PI X tgx iter (iX (ctx X) W k args)) (hg : PG X tgx (gT (ctx X) tg))
    (hb : SndD X W fr n b mb (tSeq (tRow4 (ctx X) W i j kk) (tRow5 (ctx X) W j ee))) (hs : ∀ x, foldedSetIterable iter X.env x = pure x) : SndS X W fr n (.For tgx iter b [] pos) (.forD tg k args mb i j kk ee) :=
  ⟨PS.mono (ps_for hp hc hi hg hb.ps hs) fun D σ H q => forD_wish q⟩
end
end NV

/-! Nz.F: classes, for the generator. -/
namespace NV
open PySem PySem.Spec PyProof.Rows L2 L2H

structure MethG (P : Program) (w : World) (K : PySem.W.Frag) (mg : Str → Option Value) (base : Heap) (k : Nat) (c : String) (mn : Str) (f : FnE) : Prop where
  ex : ∃ (C fa : Addr) (fd : FuncData) (ps : List Str), mg (Str.ofString c) = some (.ref C) ∧ Cls K C ∧ Meth K C mn fa ∧ FnOk P w K mg base (L2N.CX P w) k fa fd ps (spF ⟨P, w, K, mg⟩ f) ∧ Binds K fd ps []
theorem MethG.at {X : Cx} {k j : Nat} {c : String} {mn : Str} {f : FnE} (F : MethG X.prog X.w X.K X.mg X.base k c mn f) (hr : Room j X.A) (hk : k ≤ j) : MethAt X c mn f := by
  obtain ⟨C, fa, fd, ps, h1, h2, h3, h4, h5⟩ := F.ex
  exact ⟨k, C, fa, fd, ps, h1, h2, h3, h4, h5, hr.mono hk⟩
structure MakeG (P : Program) (w : World) (K : PySem.W.Frag) (mg : Str → Option Value) (base : Heap) (k : Nat) (c : String) (f : FnE) : Prop where
  ex : ∃ (C fa : Addr) (fd : FuncData) (ps : List Str), mg (Str.ofString c) = some (.ref C) ∧ Mk K C fa ∧ FnOk P w K mg base (L2N.CX P w) k fa fd ps (spF ⟨P, w, K, mg⟩ f) ∧ Binds K fd ps []
theorem MakeG.at {X : Cx} {k j : Nat} {c : String} {f : FnE} (F : MakeG X.prog X.w X.K X.mg X.base k c f) (hr : Room j X.A) (hk : k + 1 ≤ j) : MakeAt X c f := by
  obtain ⟨C, fa, fd, ps, h1, h2, h4, h5⟩ := F.ex
  exact ⟨k, C, fa, fd, ps, h1, h2, h4, h5, hr.mono hk⟩
section
variable {P : Program} {w : World} {K : PySem.W.Frag} {mg : Str → Option Value} {base : Heap}
theorem fn_gM {c : String} {C : Addr} {x qual : Str} {st : Stmt} {f : Addr} {fd : FuncData} {N ps : List Str} {k n : Nat} {ks : List PK} {fr : Bool} {ms : List MS} (B : Bas K mg) (F : L2.Fun K x qual st f fd) (hC : mg (Str.ofString c) = some (.ref C)) (cl : Cls K C) (hm : Meth K C x f) (hb : Binds K fd ps []) (S : FnScope N ps (defScope st)) (hps : ks.length = ps.length)
    (b : ∀ (cdv : Value) (A : Around) (outer : List Env) (s : Shared) (H : Hp) (E : XK), Room k (A.deeper (envOfC qual (defScope st) s.heap.objs.size f cdv)) → Okc (cxF P w K mg base N qual (defScope st) f cdv A outer s H E) (fun cls d _ H => E cls d H) →
      SndB (cxF P w K mg base N qual (defScope st) f cdv A outer s H E) (fun cls d _ H => E cls d H) fr n (defBody st) ms) : MethG P w K mg base (k + 1) c x ⟨ks, fr, runF ks N.length fr n ms⟩ :=
  ⟨C, f, fd, ps, hC, cl, hm, fn_ok F S hps (fun ds _ => .inr rfl) fun cdv A outer s H E hr => b cdv A outer s H E hr (okF B S.nd hr), hb⟩
theorem fn_gI {c : String} {C : Addr} {x qual : Str} {st : Stmt} {f : Addr} {fd : FuncData} {N ps : List Str} {k n : Nat} {ks : List PK} {fr : Bool} {ms : List MS} (B : Bas K mg) (F : L2.Fun K x qual st f fd) (hC : mg (Str.ofString c) = some (.ref C)) (hm : Mk K C f) (hb : Binds K fd ps []) (S : FnScope N ps (defScope st)) (hps : ks.length = ps.length)
    (b : ∀ (cdv : Value) (A : Around) (outer : List Env) (s : Shared) (H : Hp) (E : XK), Room k (A.deeper (envOfC qual (defScope st) s.heap.objs.size f cdv)) → Okc (cxF P w K mg base N qual (defScope st) f cdv A outer s H E) (fun cls d _ H => E cls d H) →
      SndB (cxF P w K mg base N qual (defScope st) f cdv A outer s H E) (fun cls d _ H => E cls d H) fr n (defBody st) ms) : MakeG P w K mg base (k + 1) c ⟨ks, fr, runF ks N.length fr n ms⟩ :=
  ⟨C, f, fd, ps, hC, hm, fn_ok F S hps (fun ds _ => .inr rfl) fun cdv A outer s H E hr => b cdv A outer s H E hr (okF B S.nd hr), hb⟩
/-- the class Machine, as the top has written it -/
structure MachW (K : PySem.W.Frag) (mg : Str → Option Value) (C : Addr) : Prop where
  mg : mg (Str.ofString "Machine") = some (.ref C)
  cl : Cls K C
  mak : PySem.W.makesIn K C = true
  kc : PySem.W.keepIn K (.ref C) = true
  ha : PySem.W.findIn K (.ref C) "__class__" = some (some (.builtin "object.__class__"))
  hm : PySem.W.mroIn K C (.type "object") = some true
  isC : PySem.W.isClsIn K C = true
  ty : PySem.W.typeIn K (.ref C) = some (.type "type")
  f0 : NoAttr K C "alphabet"
  f1 : NoAttr K C "size"
  f2 : NoAttr K C "begun"
  f3 : NoAttr K C "over"
  f4 : NoAttr K C "rows"
  t0 : PySem.W.subIn K (.ref C) (.type "str") = some false
  t1 : PySem.W.subIn K (.ref C) (.type "int") = some false
  t2 : PySem.W.subIn K (.ref C) (.type "bool") = some false
  t3 : PySem.W.subIn K (.ref C) (.type "tuple") = some false
  t4 : PySem.W.subIn K (.ref C) (.type "list") = some false
  u0 : PySem.W.subIn K (.type "NoneType") (.ref C) = some false
  u1 : PySem.W.subIn K (.type "bool") (.ref C) = some false
  u2 : PySem.W.subIn K (.type "int") (.ref C) = some false
  u3 : PySem.W.subIn K (.type "str") (.ref C) = some false
  u4 : PySem.W.subIn K (.type "list") (.ref C) = some false
  u5 : PySem.W.subIn K (.type "tuple") (.ref C) = some false
  u6 : PySem.W.subIn K (.type "dict") (.ref C) = some false
theorem kit_ty {C : Addr} {t : String} {b : Bool} (hk : PySem.W.kitMeta t = true) (h : PySem.W.subIn K (.ref C) (.type t) = some b) : PySem.W.kitOne K (.ref C) (.type t) = some b := by
  show (if (Value.ref C == Value.type t) = true then some true else (if PySem.W.kitMeta t = true then PySem.W.subIn K (.ref C) (.type t) else none)) = some b
  rw [if_neg (by simp), if_pos hk, h]
theorem kit_tc {C : Addr} {t : String} {b : Bool} (hi : PySem.W.isClsIn K C = true) (ht : PySem.W.typeIn K (.ref C) = some (.type "type")) (h : PySem.W.subIn K (.type t) (.ref C) = some b) : PySem.W.kitOne K (.type t) (.ref C) = some b := by
  have h2 : (PySem.W.clsIn K C).isSome = true := hi
  show (if (Value.type t == Value.ref C) = true then some true else (if ((PySem.W.clsIn K C).isSome && PySem.W.typeIn K (.ref C) == some (.type "type")) = true then PySem.W.subIn K (.type t) (.ref C) else none)) = some b
  rw [if_neg (by simp), h2, ht]
  simpa using h
theorem MachW.at {C : Addr} (M : MachW K mg C) (hn : PySem.W.specialIn K (.builtin "object.__class__") "__get__" = some (some (.builtin "getset_descriptor.__get__"))) (ht : PySem.W.takesIn K (.builtin "object.__class__") = some true) (P : Program) (w : World) : MachAt ⟨P, w, K, mg⟩ C := by
  refine ⟨M.mg, M.cl, M.ha, hn, ht, M.hm, fun t h => ?_, fun n h => ?_, fun f h => ?_⟩
  · have h : t = "str" ∨ t = "int" ∨ t = "bool" ∨ t = "tuple" ∨ t = "list" := by simpa [tyL] using h
    rcases h with rfl | rfl | rfl | rfl | rfl
    · exact kit_ty (by decide +kernel) M.t0
    · exact kit_ty (by decide +kernel) M.t1
    · exact kit_ty (by decide +kernel) M.t2
    · exact kit_ty (by decide +kernel) M.t3
    · exact kit_ty (by decide +kernel) M.t4
  · have h : n = "NoneType" ∨ n = "bool" ∨ n = "int" ∨ n = "str" ∨ n = "list" ∨ n = "tuple" ∨ n = "dict" := by simpa using h
    rcases h with rfl | rfl | rfl | rfl | rfl | rfl | rfl
    · exact kit_tc M.isC M.ty M.u0
    · exact kit_tc M.isC M.ty M.u1
    · exact kit_tc M.isC M.ty M.u2
    · exact kit_tc M.isC M.ty M.u3
    · exact kit_tc M.isC M.ty M.u4
    · exact kit_tc M.isC M.ty M.u5
    · exact kit_tc M.isC M.ty M.u6
  · have h : f = "alphabet" ∨ f = "size" ∨ f = "begun" ∨ f = "over" ∨ f = "rows" := by simpa [flds] using h
    rcases h with rfl | rfl | rfl | rfl | rfl
    · exact M.f0
    · exact M.f1
    · exact M.f2
    · exact M.f3
    · exact M.f4
theorem bas_M {C : Addr} (b : Blt mg) (M : MachW K mg C) (hn : PySem.W.specialIn K (.builtin "object.__class__") "__get__" = some (some (.builtin "getset_descriptor.__get__"))) (ht : PySem.W.takesIn K (.builtin "object.__class__") = some true) : Bas K mg := by
  refine ⟨b, fun P w => .inr ⟨C, M.at hn ht P w⟩, fun P w n C' hn' hm => ?_⟩
  have e : n = "Machine" := by
    by_cases e : n = "Machine"
    · exact e
    · exact absurd (by unfold flds; rw [if_neg e]) hn'
  subst e
  have hm : mg (Str.ofString "Machine") = some (.ref C') := hm
  rw [M.mg] at hm
  cases hm
  exact ⟨M.cl, (M.at hn ht P w).fl⟩
end
section
variable {X : Cx} {W : WX} {fr : Bool} {n i j : Nat} {pos p p1 p2 p3 apos : Pos} {e o y : Expr} {es : List Expr} {m mk : ME} {ms : List ME} {f : FnE} {cn : String} {mn fn x : Str}
theorem g_fld (O : Okc X W) (cn : String) (k : Nat) (h : Snd X W o m) (hf : (flds cn)[k]? = some fn := by rfl) (hnd : (flds cn).Nodup := by decide +kernel) (hb : attributeBase o fn X.env (eval o X.env) = eval o X.env := by rfl)
    (he : ∀ whole, isTrue (.Attribute o fn pos) X.env whole = (do let v ← whole; standAt (Expr.Attribute o fn pos).pos; holding [v] (truthy v)) := by intro _; rfl) : Snd X W (.Attribute o fn pos) (.fld cn k m) := s_fld O.cls h hf hnd hb he
theorem g_meth (O : Okc X W) (M : MethAt X cn mn f) (h : Snd X W o m) (hk : f.ks = [.im] := by rfl) (hnf : mn ∉ flds cn := by decide +kernel) (hfr : f.fresh = false := by rfl) {pl : Sem Bool}
    (ht : eval (.Call (.Attribute o mn apos) [] [] pos) X.env = (do
      let ov ← eval o X.env
      standAt apos.atName
      let (f, first) ← holding [ov] (getMethod ov mn pl)
      callWith pos f first (backTo pos (starEach [] X.env)) (backToKw pos (keywordEach [] X.env))) := by rfl) : Snd X W (.Call (.Attribute o mn apos) [] [] pos) (.meth cn f m) := s_meth hk hnf hfr O.tk M h ht
theorem g_methF (O : Okc X W) (M : MethAt X cn mn f) (h : Snd X W o m) (hk : f.ks = [.im] := by rfl) (hnf : mn ∉ flds cn := by decide +kernel) (hfr : f.fresh = true := by rfl) {pl : Sem Bool}
    (ht : eval (.Call (.Attribute o mn apos) [] [] pos) X.env = (do
      let ov ← eval o X.env
      standAt apos.atName
      let (f, first) ← holding [ov] (getMethod ov mn pl)
      callWith pos f first (backTo pos (starEach [] X.env)) (backToKw pos (keywordEach [] X.env))) := by rfl) : SndF X W (.Call (.Attribute o mn apos) [] [] pos) (.meth cn f m) := s_methF hk hnf hfr O.tk M h ht
theorem g_make (O : Okc X W) (M : MakeAt X cn f) (ha : SndL X W (e :: es) ms) (hk : f.ks = .io :: List.replicate ms.length .im := by rfl) (hfr : f.fresh = false := by rfl) (hg : Gl X (Str.ofString cn) := by rfl) (hdb : ((Str.ofString cn) == ("__debug__" : Str)) = false := by decide)
    (he : starEach (e :: es) X.env = (false, eval e X.env) :: starEach es X.env := by rfl) (hpl : (backTo pos (starEach es X.env)).any (·.1) = false := by rfl) : Snd X W (.Call (.Name (Str.ofString cn) p) (e :: es) [] pos) (.make cn f ms) := s_make hk hfr O.tk M ha hg hdb he hpl
theorem g_setA (O : Okc X W) (cn : String) (ho : Snd X W o (.var i)) (h : Snd X W e m) (hf : (flds cn)[j]? = some fn := by rfl) (hnd : (flds cn).Nodup := by decide +kernel) (hsz : (flds cn).length < 1000 := by decide +kernel)
    (hs : swapsWith e (some (.Attribute o fn p1)) pos.line X.env = pure false := by rfl) : SndS X W fr n (.Assign [.Attribute o fn p1] e pos) (.setA cn i j m) := ss_setA O.cls ho h hf hnd hsz hs
theorem g_setK (O : Okc X W) (ho : Snd X W o (.var i)) (hk : Snd X W y mk) (h : Snd X W e m)
    (ha : ∀ v, assign (.Subscript o y p3) X.env v = (do
      let ov ← holding [v] (eval o X.env)
      let iv ← holding [v, ov] (eval y X.env)
      standAt p3
      holding [v, ov, iv] (setItem ov iv v)
      release [v, ov, iv] []) := by intro _; rfl)
    (hs : swapsWithSole [.Subscript o y p3] e pos.line X.env = pure false := by rfl) (hw : swappedStores [.Subscript o y p3] e X.env = pure none := by rfl) (h1 : (assignEach [.Subscript o y p3] X.env).map (·.2) = [assign (.Subscript o y p3) X.env] := by rfl) :
    SndS X W fr n (.Assign [.Subscript o y p3] e pos) (.setK i mk m) := ss_setK O.hu ho hk h ha hs hw h1
theorem g_dgetc (O : Okc X W) {ks : List (Option Expr)} {vs : List Expr} {ss : List (List Nat)} {is : List Int} {i0 : Int} {y : Expr} {dpos cpos : Pos} (h : KVs X dpos ks vs ss is) (he : Snd X W e m) (hx : PE X y (tC (.int i0))) (h0 : ks ≠ [] := by exact List.cons_ne_nil _ _) (h15 : ks.length ≤ 15 := by decide) (hnd : ss.Nodup := by decide)
    (h1 : attributeBase (.Dict ks vs dpos) "get" X.env (eval (.Dict ks vs dpos) X.env) = eval (.Dict ks vs dpos) X.env := by rfl)
    (h2 : ((backTo cpos (starEach [e, y] X.env)).all (fun x => !x.1) && (backToKw cpos (keywordEach [] X.env)).all (fun x => x.1.isSome)
    && decide (([e, y] : List Expr).length + ([] : List Keyword).length + (if ([] : List Keyword).isEmpty then 0 else 1) < 30)) = true := by rfl) (h3 : (apos.endLine == cpos.line) = true := by rfl) (h4 : backTo cpos (starEach [e, y] X.env) = [(false, eval e X.env), (false, eval y X.env)] := by rfl) :
    Snd X W (.Call (.Attribute (.Dict ks vs dpos) "get" apos) [e, y] [] cpos) (.dgetc ss is m i0) := s_dgetc O.hu h h0 h15 hnd he hx ⟨h1, h2, h3, h4⟩
/-- a name, bare -/
theorem g_raw (hi : X.N[i]? = some x := by rfl) (hv : Vis X.env.scope x := by first | exact .inl rfl | exact .inr (.inl rfl) | exact .inr (.inr rfl)) (hd : (x == ("__debug__" : Str)) = false := by decide) (hcd : (x == ("__classdict__" : Str)) = false := by decide) : PE X (.Name x pos) (tVar i) := pe_var hi hv hd hcd
theorem g_rows {fo ro kx lx : Expr} {x : Str} {kk ee : ME} {p1 p2 lp ap cp ap2 cp2 sp1 sp2 : Pos} (O : Okc X W) (hfo : PE X fo (tVar i)) (hro : PE X ro (tVar j)) (hk : Snd X W kx kk) (he : Snd X W lx ee) (hg : SndT X (.Name x p1) (.nm j))
    (m1 : attributeBase fo "setdefault" X.env (eval fo X.env) = eval fo X.env := by rfl)
    (m2 : ((backTo cp (starEach [kx, .List [] lp] X.env)).all (fun x => !x.1) && (backToKw cp (keywordEach [] X.env)).all (fun x => x.1.isSome)
    && decide (([kx, .List [] lp] : List Expr).length + ([] : List Keyword).length + (if ([] : List Keyword).isEmpty then 0 else 1) < 30)) = true := by rfl) (m3 : (ap.endLine == cp.line) = true := by rfl) (m4 : backTo cp (starEach [kx, .List [] lp] X.env) = [(false, eval kx X.env), (false, eval (.List [] lp) X.env)] := by rfl)
    (hs : swapsWithSole [.Name x p1] (.Call (.Attribute fo "setdefault" ap) [kx, .List [] lp] [] cp) sp1.line X.env = pure false := by rfl) (hw : swappedStores [.Name x p1] (.Call (.Attribute fo "setdefault" ap) [kx, .List [] lp] [] cp) X.env = pure none := by rfl) (h1 : (assignEach [.Name x p1] X.env).map (·.2) = [assign (.Name x p1) X.env] := by rfl)
    (hb : attributeBase ro "append" X.env (eval ro X.env) = eval ro X.env := by rfl)
    (hfew : ((backTo cp2 (starEach (lx :: []) X.env)).all (fun x => !x.1) && (backToKw cp2 (keywordEach [] X.env)).all (fun x => x.1.isSome)
      && decide ((lx :: []).length + ([] : List Keyword).length + (if ([] : List Keyword).isEmpty then 0 else 1) < 30)) = true := by rfl)
    (hline : (ap2.endLine == cp2.line) = true := by rfl) (hst : starEach (lx :: []) X.env = (false, eval lx X.env) :: starEach [] X.env := by rfl) (hplain : (backTo cp2 (starEach [] X.env)).any (·.1) = false := by rfl)
    (hsw : swapsWith (.Call (.Attribute ro "append" ap2) [lx] [] cp2) none sp2.line X.env = pure false := by rfl) :
    SndD X W fr n [.Assign [.Name x p1] (.Call (.Attribute fo "setdefault" ap) [kx, .List [] lp] [] cp) sp1, .Expr (.Call (.Attribute ro "append" ap2) [lx] [] cp2) sp2] [] (tSeq (tRow4 (ctx X) W i j kk) (tRow5 (ctx X) W j ee)) :=
  sd_rows (p2 := p2) O.hu hfo hro hk he hg.pg ⟨m1, m2, m3, m4⟩ hs hw h1 hb hfew hline hst hplain hsw
theorem g_forD {tg iter : Expr} {t : Tg} {ik : IK} {ms : List ME} {kk ee : ME} {sb : List Stmt} {mb : List MS} (O : Okc X W) (hp : PassesOwn (model X.prog X.w) X.A X.env X.xe) (hi : SndI X W tg iter ik ms) (hg : SndT X tg t) (hb : SndD X W fr n sb mb (tSeq (tRow4 (ctx X) W i j kk) (tRow5 (ctx X) W j ee))) (hs : ∀ x, foldedSetIterable iter X.env x = pure x := by intro _; rfl) :
    SndS X W fr n (.For tg iter sb [] pos) (.forD t ik ms mb i j kk ee) := ss_forD hp O.calm hi.pi hg.pg hb hs
end
end NV

namespace NV
/-! Maths: loops of the small language. -/
theorem compLoop_flat {elt : Ev} {ifs : Rho → Out Rho (Bool × Rho)} {tg : Tg} {own : List Nat} {ρ : Rho} {f : D → List D} : ∀ {items : List D}, (∀ d ∈ items, compStep elt ifs tg own d ρ = .ok (f d, ρ)) → compLoop elt ifs tg own items ρ = .ok (items.flatMap f, ρ)
  | [], _ => rfl
  | d :: ds, h => by
    show (compStep elt ifs tg own d ρ).bind _ = _
    rw [h d List.mem_cons_self]
    simp only [Out.bind_ok]
    rw [compLoop_flat fun x hx => h x (List.mem_cons_of_mem _ hx)]
    rfl
theorem compLoop_map {elt : Ev} {ifs : Rho → Out Rho (Bool × Rho)} {tg : Tg} {own : List Nat} {ρ : Rho} {f : D → D} {items : List D} (h : ∀ d ∈ items, compStep elt ifs tg own d ρ = .ok ([f d], ρ)) : compLoop elt ifs tg own items ρ = .ok (items.map f, ρ) := by
  rw [compLoop_flat (f := fun d => [f d]) h]
  have e : ∀ l : List D, l.flatMap (fun d => [f d]) = l.map f := fun l => by
    induction l with
    | nil => rfl
    | cons x l ih => simp [List.flatMap_cons, ih]
  rw [e]
def loopE {S : Type} (g : S → D → S ⊕ D) : S → List D → S ⊕ D
  | s, [] => .inl s
  | s, d :: ds => match g s d with
    | .inl s' => loopE g s' ds
    | .inr v => .inr v
theorem for_loop {S : Type} {body : EvS} {tg : Tg} {st : S → Rho → Prop} {g : S → D → S ⊕ D} : ∀ {items : List D} {s : S} {ρ : Rho}, st s ρ →
    (∀ s ρ d, d ∈ items → st s ρ → ∃ ρ1, setT tg d ρ = some ρ1 ∧ match g s d with
      | .inl s' => ∃ ρ', body ρ1 = .ok (.nx, ρ') ∧ st s' ρ'
      | .inr v => ∃ ρ', body ρ1 = .ok (.ret v, ρ')) →
    match loopE g s items with
      | .inl s' => ∃ ρ', forLoop body tg items ρ = .ok (.nx, ρ') ∧ st s' ρ'
      | .inr v => ∃ ρ', forLoop body tg items ρ = .ok (.ret v, ρ')
  | [], s, ρ, h, _ => ⟨ρ, rfl, h⟩
  | d :: ds, s, ρ, h, k => by
    obtain ⟨ρ1, h1, h2⟩ := k s ρ d List.mem_cons_self h
    unfold loopE
    cases q : g s d with
    | inl s' =>
      rw [q] at h2
      obtain ⟨ρ', h3, h4⟩ := h2
      have ih := for_loop (items := ds) h4 fun s ρ x hx => k s ρ x (List.mem_cons_of_mem _ hx)
      have e : forLoop body tg (d :: ds) ρ = forLoop body tg ds ρ' := by
        show (match setT tg d ρ with | none => Out.stuck | some ρ1 => (body ρ1).bind fun r => match r.1 with | .nx => forLoop body tg ds r.2 | .ret v => .ok (.ret v, r.2)) = _
        rw [h1]
        dsimp only
        rw [h3]
        rfl
      dsimp only
      rw [e]
      exact ih
    | inr v =>
      rw [q] at h2
      obtain ⟨ρ', h3⟩ := h2
      refine ⟨ρ', ?_⟩
      show (match setT tg d ρ with | none => Out.stuck | some ρ1 => (body ρ1).bind fun r => match r.1 with | .nx => forLoop body tg ds r.2 | .ret v => .ok (.ret v, r.2)) = _
      rw [h1]
      dsimp only
      rw [h3]
      rfl
/-- a slot that may be set -/
def isUI : Ent → Bool
  | .un => true
  | .im _ => true
  | _ => false
@[simp] theorem isUI_un : isUI .un = true := rfl
@[simp] theorem isUI_im (d : D) : isUI (.im d) = true := rfl
theorem isUI_or {e : Ent} (h : isUI e = true) : e = .un ∨ ∃ d, e = .im d := by
  cases e with
  | un => exact .inl rfl
  | im d => exact .inr ⟨d, rfl⟩
  | _ => cases h
theorem ioOuts_noio : ∀ (ks : List PK) (ρ : Rho), ks.contains .io = false → ioOuts ks ρ = []
  | [], ρ, _ => by cases ρ <;> rfl
  | k :: ks, [], h => by cases k <;> first | rfl | (simp at h)
  | k :: ks, e :: ρ, h => by
    cases k with
    | io => simp at h
    | im =>
      have ih := ioOuts_noio ks ρ (by simpa using h)
      cases e <;> exact ih
    | br =>
      have ih := ioOuts_noio ks ρ (by simpa using h)
      cases e <;> exact ih
@[simp] theorem ioOuts1 (ρ : Rho) : ioOuts [.im] ρ = [] := ioOuts_noio _ _ rfl
@[simp] theorem ioOuts2 (ρ : Rho) : ioOuts [.im, .im] ρ = [] := ioOuts_noio _ _ rfl
@[simp] theorem ioOuts3 (ρ : Rho) : ioOuts [.im, .im, .im] ρ = [] := ioOuts_noio _ _ rfl
@[simp] theorem ioOuts4 (ρ : Rho) : ioOuts [.im, .im, .im, .im] ρ = [] := ioOuts_noio _ _ rfl
@[simp] theorem ioOuts6' (d : D) (ρ : Rho) : ioOuts [.io, .im, .im, .im, .im, .im] (.io d :: ρ) = [d] := by show d :: ioOuts [.im, .im, .im, .im, .im] ρ = _; rw [ioOuts_noio _ _ rfl]
@[simp] theorem ioOuts5 (ρ : Rho) : ioOuts [.im, .im, .im, .im, .im] ρ = [] := ioOuts_noio _ _ rfl
theorem allBl_map {α : Type} (f : α → Bool) : ∀ l : List α, allBl (l.map fun x => D.bl (f x)) = some (l.map f)
  | [] => rfl
  | x :: l => by
    show (allBl (l.map fun x => D.bl (f x))).map (f x :: ·) = _
    rw [allBl_map f l]
    rfl
theorem metN_nodup {α : Type} [DecidableEq α] (l : List α) : (metN l = l.length) = l.Nodup := by
  have key : ∀ (l acc : List α), acc.Nodup → ((l.foldl metL acc).length = acc.length + l.length ↔ (acc ++ l).Nodup) := by
    intro l
    induction l with
    | nil => intro acc ha; simp [ha]
    | cons x l ih =>
      intro acc ha
      rw [List.foldl_cons]
      by_cases hx : x ∈ acc
      · have e : metL acc x = acc := by unfold metL; rw [if_pos hx]
        rw [e]
        constructor
        · intro h
          have := met_le l acc
          simp only [List.length_cons] at h
          omega
        · intro h
          exfalso
          rw [List.nodup_append] at h
          exact h.2.2 x hx x List.mem_cons_self rfl
      · have e : metL acc x = acc ++ [x] := by unfold metL; rw [if_neg hx]
        rw [e]
        have ha' : (acc ++ [x]).Nodup := by
          rw [List.nodup_append]
          exact ⟨ha, by simp, fun a h1 b h2 => by simp at h2; subst h2; exact fun z => hx (z ▸ h1)⟩
        have := ih (acc ++ [x]) ha'
        simp only [List.length_append, List.length_cons, List.length_nil, List.append_assoc, List.singleton_append] at this ⊢
        rw [← this]
        omega
  have := key l [] List.nodup_nil
  simp only [List.length_nil, Nat.zero_add, List.nil_append] at this
  exact propext this
end NV
namespace NV
theorem for_inv {body : EvS} {tg : Tg} (inv : Nat → Rho → Prop) : ∀ (items : List D) (i : Nat) (ρ : Rho), inv i ρ →
    (∀ j ρ d, items[j]? = some d → inv (i + j) ρ → ∃ ρ1 ρ', setT tg d ρ = some ρ1 ∧ body ρ1 = .ok (.nx, ρ') ∧ inv (i + j + 1) ρ') → ∃ ρ', forLoop body tg items ρ = .ok (.nx, ρ') ∧ inv (i + items.length) ρ'
  | [], i, ρ, h, _ => ⟨ρ, rfl, h⟩
  | d :: ds, i, ρ, h, k => by
    obtain ⟨ρ1, ρ', h1, h2, h3⟩ := k 0 ρ d rfl h
    obtain ⟨ρ2, h4, h5⟩ := for_inv inv ds (i + 1) ρ' h3 fun j ρ x hx hi => by
      obtain ⟨ρ3, ρ4, w1, w2, w3⟩ := k (j + 1) ρ x (by simpa using hx) (by rw [show i + (j + 1) = i + 1 + j by omega]; exact hi)
      exact ⟨ρ3, ρ4, w1, w2, by rw [show i + 1 + j + 1 = i + (j + 1) + 1 by omega]; exact w3⟩
    refine ⟨ρ2, ?_, by rw [List.length_cons, show i + (ds.length + 1) = i + 1 + ds.length by omega]; exact h5⟩
    show (match setT tg d ρ with | none => Out.stuck | some ρ1 => (body ρ1).bind fun r => match r.1 with | .nx => forLoop body tg ds r.2 | .ret v => .ok (.ret v, r.2)) = _
    rw [h1]
    dsimp only
    rw [h2]
    exact h4
end NV
namespace NV
theorem for_loopI {S : Type} {body : EvS} {tg : Tg} {st : Nat → S → Rho → Prop} {g : S → D → S ⊕ D} (N : Nat) : ∀ {items : List D} {i : Nat} {s : S} {ρ : Rho}, i + items.length ≤ N → st i s ρ →
    (∀ i s ρ d, d ∈ items → i < N → st i s ρ → ∃ ρ1, setT tg d ρ = some ρ1 ∧ match g s d with
      | .inl s' => ∃ ρ', body ρ1 = .ok (.nx, ρ') ∧ st (i + 1) s' ρ'
      | .inr v => ∃ ρ', body ρ1 = .ok (.ret v, ρ')) →
    match loopE g s items with
      | .inl s' => ∃ ρ', forLoop body tg items ρ = .ok (.nx, ρ') ∧ st (i + items.length) s' ρ'
      | .inr v => ∃ ρ', forLoop body tg items ρ = .ok (.ret v, ρ')
  | [], i, s, ρ, _, h, _ => ⟨ρ, rfl, h⟩
  | d :: ds, i, s, ρ, hN, h, k => by
    rw [List.length_cons] at hN
    obtain ⟨ρ1, h1, h2⟩ := k i s ρ d List.mem_cons_self (by omega) h
    unfold loopE
    cases q : g s d with
    | inl s' =>
      rw [q] at h2
      obtain ⟨ρ', h3, h4⟩ := h2
      have ih := for_loopI N (items := ds) (by omega) h4 fun i s ρ x hx => k i s ρ x (List.mem_cons_of_mem _ hx)
      have e : forLoop body tg (d :: ds) ρ = forLoop body tg ds ρ' := by
        show (match setT tg d ρ with | none => Out.stuck | some ρ1 => (body ρ1).bind fun r => match r.1 with | .nx => forLoop body tg ds r.2 | .ret v => .ok (.ret v, r.2)) = _
        rw [h1]
        dsimp only
        rw [h3]
        rfl
      dsimp only
      rw [e, List.length_cons, show i + (ds.length + 1) = i + 1 + ds.length by omega]
      exact ih
    | inr v =>
      rw [q] at h2
      obtain ⟨ρ', h3⟩ := h2
      refine ⟨ρ', ?_⟩
      show (match setT tg d ρ with | none => Out.stuck | some ρ1 => (body ρ1).bind fun r => match r.1 with | .nx => forLoop body tg ds r.2 | .ret v => .ok (.ret v, r.2)) = _
      rw [h1]
      dsimp only
      rw [h3]
      rfl
end NV

namespace NV
/-! Maths: the evaluator as rules for simp. -/
def entV : Ent → Option D
  | .im d => some d | .ow d => some d | .io d => some d | .br d => some d | .un => none | .hid => none
@[simp] theorem entV_im (d : D) : entV (.im d) = some d := rfl
@[simp] theorem entV_ow (d : D) : entV (.ow d) = some d := rfl
@[simp] theorem entV_io (d : D) : entV (.io d) = some d := rfl
@[simp] theorem entV_br (d : D) : entV (.br d) = some d := rfl
@[simp] theorem entV_un : entV .un = none := rfl
@[simp] theorem entV_hid : entV .hid = none := rfl
@[simp] theorem peek_eq (ρ : Rho) (i : Nat) : peek ρ i = (ρ[i]?).bind entV := by
  unfold peek
  cases ρ[i]? with
  | none => rfl
  | some e => cases e <;> rfl
@[simp] theorem pre_var (i : Nat) (e : Ev) (ρ : Rho) : pre (.var i) e ρ = match peek ρ i with | some _ => .ok (none, ρ) | none => .stuck := rfl
@[simp] theorem fin_var (i : Nat) (z : Option D) (ρ : Rho) : fin (.var i) z ρ = peek ρ i := rfl
@[simp] theorem pre_cst (d : D) (e : Ev) (ρ : Rho) : pre (ME.cst d) e ρ = (e ρ).bind fun r => .ok (some r.1, r.2) := rfl
@[simp] theorem fin_cst (d : D) (z : Option D) (ρ : Rho) : fin (ME.cst d) z ρ = z := rfl
@[simp] theorem pre_bin (o : Op) (a b : ME) (e : Ev) (ρ : Rho) : pre (ME.bin o a b) e ρ = (e ρ).bind fun r => .ok (some r.1, r.2) := rfl
@[simp] theorem fin_bin (o : Op) (a b : ME) (z : Option D) (ρ : Rho) : fin (ME.bin o a b) z ρ = z := rfl
@[simp] theorem pre_neg (a : ME) (e : Ev) (ρ : Rho) : pre (ME.neg a) e ρ = (e ρ).bind fun r => .ok (some r.1, r.2) := rfl
@[simp] theorem fin_neg (a : ME) (z : Option D) (ρ : Rho) : fin (ME.neg a) z ρ = z := rfl
@[simp] theorem pre_cmp (o : Cm) (a b : ME) (e : Ev) (ρ : Rho) : pre (ME.cmp o a b) e ρ = (e ρ).bind fun r => .ok (some r.1, r.2) := rfl
@[simp] theorem fin_cmp (o : Cm) (a b : ME) (z : Option D) (ρ : Rho) : fin (ME.cmp o a b) z ρ = z := rfl
@[simp] theorem pre_chn (o o' : Cm) (a b c : ME) (e : Ev) (ρ : Rho) : pre (ME.chn o o' a b c) e ρ = (e ρ).bind fun r => .ok (some r.1, r.2) := rfl
@[simp] theorem fin_chn (o o' : Cm) (a b c : ME) (z : Option D) (ρ : Rho) : fin (ME.chn o o' a b c) z ρ = z := rfl
@[simp] theorem pre_and (l : List ME) (e : Ev) (ρ : Rho) : pre (ME.and l) e ρ = (e ρ).bind fun r => .ok (some r.1, r.2) := rfl
@[simp] theorem fin_and (l : List ME) (z : Option D) (ρ : Rho) : fin (ME.and l) z ρ = z := rfl
@[simp] theorem pre_or (l : List ME) (e : Ev) (ρ : Rho) : pre (ME.or l) e ρ = (e ρ).bind fun r => .ok (some r.1, r.2) := rfl
@[simp] theorem fin_or (l : List ME) (z : Option D) (ρ : Rho) : fin (ME.or l) z ρ = z := rfl
@[simp] theorem pre_not (a : ME) (e : Ev) (ρ : Rho) : pre (ME.not a) e ρ = (e ρ).bind fun r => .ok (some r.1, r.2) := rfl
@[simp] theorem fin_not (a : ME) (z : Option D) (ρ : Rho) : fin (ME.not a) z ρ = z := rfl
@[simp] theorem pre_ife (c a b : ME) (e : Ev) (ρ : Rho) : pre (ME.ife c a b) e ρ = (e ρ).bind fun r => .ok (some r.1, r.2) := rfl
@[simp] theorem fin_ife (c a b : ME) (z : Option D) (ρ : Rho) : fin (ME.ife c a b) z ρ = z := rfl
@[simp] theorem pre_tup (l : List ME) (e : Ev) (ρ : Rho) : pre (ME.tup l) e ρ = (e ρ).bind fun r => .ok (some r.1, r.2) := rfl
@[simp] theorem fin_tup (l : List ME) (z : Option D) (ρ : Rho) : fin (ME.tup l) z ρ = z := rfl
@[simp] theorem pre_lst (l : List ME) (e : Ev) (ρ : Rho) : pre (ME.lst l) e ρ = (e ρ).bind fun r => .ok (some r.1, r.2) := rfl
@[simp] theorem fin_lst (l : List ME) (z : Option D) (ρ : Rho) : fin (ME.lst l) z ρ = z := rfl
@[simp] theorem pre_emp  (e : Ev) (ρ : Rho) : pre ME.emp e ρ = (e ρ).bind fun r => .ok (some r.1, r.2) := rfl
@[simp] theorem fin_emp  (z : Option D) (ρ : Rho) : fin ME.emp z ρ = z := rfl
@[simp] theorem pre_comp (elt : ME) (tg : Tg) (k : IK) (args ifs : List ME) (own : List Nat) (e : Ev) (ρ : Rho) : pre (ME.comp elt tg k args ifs own) e ρ = (e ρ).bind fun r => .ok (some r.1, r.2) := rfl
@[simp] theorem fin_comp (elt : ME) (tg : Tg) (k : IK) (args ifs : List ME) (own : List Nat) (z : Option D) (ρ : Rho) : fin (ME.comp elt tg k args ifs own) z ρ = z := rfl
@[simp] theorem pre_call (f : FnE) (args : List ME) (e : Ev) (ρ : Rho) : pre (ME.call f args) e ρ = (e ρ).bind fun r => .ok (some r.1, r.2) := rfl
@[simp] theorem fin_call (f : FnE) (args : List ME) (z : Option D) (ρ : Rho) : fin (ME.call f args) z ρ = z := rfl
@[simp] theorem pre_isi (a : ME) (t : String) (e : Ev) (ρ : Rho) : pre (ME.isi a t) e ρ = (e ρ).bind fun r => .ok (some r.1, r.2) := rfl
@[simp] theorem fin_isi (a : ME) (t : String) (z : Option D) (ρ : Rho) : fin (ME.isi a t) z ρ = z := rfl
@[simp] theorem pre_b1 (b : B1) (a : ME) (e : Ev) (ρ : Rho) : pre (ME.b1 b a) e ρ = (e ρ).bind fun r => .ok (some r.1, r.2) := rfl
@[simp] theorem fin_b1 (b : B1) (a : ME) (z : Option D) (ρ : Rho) : fin (ME.b1 b a) z ρ = z := rfl
@[simp] theorem pre_idx (a i : ME) (e : Ev) (ρ : Rho) : pre (ME.idx a i) e ρ = (e ρ).bind fun r => .ok (some r.1, r.2) := rfl
@[simp] theorem fin_idx (a i : ME) (z : Option D) (ρ : Rho) : fin (ME.idx a i) z ρ = z := rfl
@[simp] theorem pre_sl (a : ME) (lo hi : List ME) (e : Ev) (ρ : Rho) : pre (ME.sl a lo hi) e ρ = (e ρ).bind fun r => .ok (some r.1, r.2) := rfl
@[simp] theorem fin_sl (a : ME) (lo hi : List ME) (z : Option D) (ρ : Rho) : fin (ME.sl a lo hi) z ρ = z := rfl
@[simp] theorem pre_rev (a : ME) (e : Ev) (ρ : Rho) : pre (ME.rev a) e ρ = (e ρ).bind fun r => .ok (some r.1, r.2) := rfl
@[simp] theorem fin_rev (a : ME) (z : Option D) (ρ : Rho) : fin (ME.rev a) z ρ = z := rfl
@[simp] theorem pre_fld (c : String) (k : Nat) (a : ME) (e : Ev) (ρ : Rho) : pre (ME.fld c k a) e ρ = (e ρ).bind fun r => .ok (some r.1, r.2) := rfl
@[simp] theorem fin_fld (c : String) (k : Nat) (a : ME) (z : Option D) (ρ : Rho) : fin (ME.fld c k a) z ρ = z := rfl
@[simp] theorem pre_join (s a : ME) (e : Ev) (ρ : Rho) : pre (ME.join s a) e ρ = (e ρ).bind fun r => .ok (some r.1, r.2) := rfl
@[simp] theorem fin_join (s a : ME) (z : Option D) (ρ : Rho) : fin (ME.join s a) z ρ = z := rfl
@[simp] theorem pre_dsel (ks : List (List Nat)) (vs : List Int) (a : ME) (e : Ev) (ρ : Rho) : pre (ME.dsel ks vs a) e ρ = (e ρ).bind fun r => .ok (some r.1, r.2) := rfl
@[simp] theorem fin_dsel (ks : List (List Nat)) (vs : List Int) (a : ME) (z : Option D) (ρ : Rho) : fin (ME.dsel ks vs a) z ρ = z := rfl
@[simp] theorem pre_dgetc (ks : List (List Nat)) (vs : List Int) (a : ME) (x : Int) (e : Ev) (ρ : Rho) : pre (ME.dgetc ks vs a x) e ρ = (e ρ).bind fun r => .ok (some r.1, r.2) := rfl
@[simp] theorem fin_dgetc (ks : List (List Nat)) (vs : List Int) (a : ME) (x : Int) (z : Option D) (ρ : Rho) : fin (ME.dgetc ks vs a x) z ρ = z := rfl
@[simp] theorem pre_get (d k x : ME) (e : Ev) (ρ : Rho) : pre (ME.get d k x) e ρ = (e ρ).bind fun r => .ok (some r.1, r.2) := rfl
@[simp] theorem fin_get (d k x : ME) (z : Option D) (ρ : Rho) : fin (ME.get d k x) z ρ = z := rfl
@[simp] theorem pre_isx (a : ME) (t : Nat → Option Bool) (e : Ev) (ρ : Rho) : pre (ME.isx a t) e ρ = (e ρ).bind fun r => .ok (some r.1, r.2) := rfl
@[simp] theorem fin_isx (a : ME) (t : Nat → Option Bool) (z : Option D) (ρ : Rho) : fin (ME.isx a t) z ρ = z := rfl
@[simp] theorem pre_cnt (a x : ME) (e : Ev) (ρ : Rho) : pre (ME.cnt a x) e ρ = (e ρ).bind fun r => .ok (some r.1, r.2) := rfl
@[simp] theorem fin_cnt (a x : ME) (z : Option D) (ρ : Rho) : fin (ME.cnt a x) z ρ = z := rfl
@[simp] theorem pre_make (c : String) (f : FnE) (args : List ME) (e : Ev) (ρ : Rho) : pre (ME.make c f args) e ρ = (e ρ).bind fun r => .ok (some r.1, r.2) := rfl
@[simp] theorem fin_make (c : String) (f : FnE) (args : List ME) (z : Option D) (ρ : Rho) : fin (ME.make c f args) z ρ = z := rfl
@[simp] theorem pre_meth (c : String) (f : FnE) (a : ME) (e : Ev) (ρ : Rho) : pre (ME.meth c f a) e ρ = (e ρ).bind fun r => .ok (some r.1, r.2) := rfl
@[simp] theorem fin_meth (c : String) (f : FnE) (a : ME) (z : Option D) (ρ : Rho) : fin (ME.meth c f a) z ρ = z := rfl
@[simp] theorem pre_pu (fr : Bool) (f : List D → Option D) (args : List ME) (e : Ev) (ρ : Rho) : pre (ME.pu fr f args) e ρ = (e ρ).bind fun r => .ok (some r.1, r.2) := rfl
@[simp] theorem fin_pu (fr : Bool) (f : List D → Option D) (args : List ME) (z : Option D) (ρ : Rho) : fin (ME.pu fr f args) z ρ = z := rfl
@[simp] theorem pre_pop (i : Nat) (e : Ev) (ρ : Rho) : pre (ME.pop i) e ρ = (e ρ).bind fun r => .ok (some r.1, r.2) := rfl
@[simp] theorem fin_pop (i : Nat) (z : Option D) (ρ : Rho) : fin (ME.pop i) z ρ = z := rfl
@[simp] theorem evVar_eq (ρ : Rho) (i : Nat) : ev (.var i) ρ = match ρ[i]? with
  | some (.im d) => .ok (d, ρ)
  | some (.ow d) => .ok (d, ρ.set i (.im d))
  | _ => .stuck := rfl
@[simp] theorem ev_cst (d : D) (ρ : Rho) : ev (.cst d) ρ = .ok (d, ρ) := rfl
@[simp] theorem ev_bin (o : Op) (a b : ME) (ρ : Rho) : ev (.bin o a b) ρ = (pre a (ev a) ρ).bind fun x => (pre b (ev b) x.2).bind fun y => match fin a x.1 y.2, fin b y.1 y.2 with
    | some p, some q => opt (binD o p q) y.2
    | _, _ => .stuck := rfl
@[simp] theorem ev_neg (a : ME) (ρ : Rho) : ev (.neg a) ρ = (ev a ρ).bind fun x => opt (negD x.1) x.2 := rfl
@[simp] theorem ev_cmp (o : Cm) (a b : ME) (ρ : Rho) : ev (.cmp o a b) ρ = (pre a (ev a) ρ).bind fun x => (pre b (ev b) x.2).bind fun y => match fin a x.1 y.2, fin b y.1 y.2 with
    | some p, some q => opt (cmpD o p q) y.2
    | _, _ => .stuck := rfl
@[simp] theorem ev_chn (o o' : Cm) (a b c : ME) (ρ : Rho) : ev (.chn o o' a b c) ρ = (ev a ρ).bind fun x => (ev b x.2).bind fun y => match cmpD o x.1 y.1 with
    | some (.bl true) => (ev c y.2).bind fun z => opt (cmpD o' y.1 z.1) z.2
    | some (.bl false) => .ok (.bl false, y.2)
    | _ => .stuck := rfl
@[simp] theorem ev_and (l : List ME) (ρ : Rho) : ev (.and l) ρ = evAnd l ρ := rfl
@[simp] theorem ev_or (l : List ME) (ρ : Rho) : ev (.or l) ρ = evOr l ρ := rfl
@[simp] theorem evAnd_one1 (m : ME) (ρ : Rho) : evAnd [m] ρ = (ev m ρ).bind fun x => match x.1 with
    | .bl b => .ok (.bl b, x.2)
    | _ => .stuck := rfl
@[simp] theorem evAnd_two1 (m m' : ME) (ms : List ME) (ρ : Rho) : evAnd (m :: m' :: ms) ρ = (ev m ρ).bind fun x => match x.1 with
    | .bl b => if b then evAnd (m' :: ms) x.2 else .ok (.bl false, x.2)
    | _ => .stuck := rfl
@[simp] theorem evOr_one1 (m : ME) (ρ : Rho) : evOr [m] ρ = (ev m ρ).bind fun x => match x.1 with
    | .bl b => .ok (.bl b, x.2)
    | _ => .stuck := rfl
@[simp] theorem evOr_two1 (m m' : ME) (ms : List ME) (ρ : Rho) : evOr (m :: m' :: ms) ρ = (ev m ρ).bind fun x => match x.1 with
    | .bl b => if b then .ok (.bl true, x.2) else evOr (m' :: ms) x.2
    | _ => .stuck := rfl
@[simp] theorem ev_not (a : ME) (ρ : Rho) : ev (.not a) ρ = (ev a ρ).bind fun x => match x.1 with
    | .bl b => .ok (.bl (!b), x.2)
    | _ => .stuck := rfl
@[simp] theorem ev_ife (c a b : ME) (ρ : Rho) : ev (.ife c a b) ρ = (ev c ρ).bind fun x => match x.1 with
    | .bl true => ev a x.2
    | .bl false => ev b x.2
    | _ => .stuck := rfl
@[simp] theorem ev_tup (l : List ME) (ρ : Rho) : ev (.tup l) ρ = (evs l ρ).bind fun x => .ok (.tup x.1, x.2) := rfl
@[simp] theorem ev_lst (l : List ME) (ρ : Rho) : ev (.lst l) ρ = (evs l ρ).bind fun x => .ok (.lst x.1, x.2) := rfl
@[simp] theorem ev_emp (ρ : Rho) : ev .emp ρ = .ok (.dic [] [], ρ) := rfl
@[simp] theorem evs_nil (ρ : Rho) : evs [] ρ = .ok ([], ρ) := rfl
@[simp] theorem evs_cons (m : ME) (ms : List ME) (ρ : Rho) : evs (m :: ms) ρ = (ev m ρ).bind fun x => (evs ms x.2).bind fun y => .ok (x.1 :: y.1, y.2) := rfl
@[simp] theorem pres_nil (ρ : Rho) : pres [] ρ = .ok ([], ρ) := rfl
@[simp] theorem pres_cons (m : ME) (ms : List ME) (ρ : Rho) : pres (m :: ms) ρ = (pre m (ev m) ρ).bind fun x => (pres ms x.2).bind fun y => .ok (x.1 :: y.1, y.2) := rfl
@[simp] theorem finL_nil (ρ : Rho) : finL [] [] ρ = some [] := rfl
@[simp] theorem finL_cons (m : ME) (ms : List ME) (o : Option D) (os : List (Option D)) (ρ : Rho) : finL (m :: ms) (o :: os) ρ = match fin m o ρ, finL ms os ρ with
  | some d, some ds => some (d :: ds)
  | _, _ => none := rfl
/-- a comprehension whose turns are known -/
theorem ev_comp (elt : ME) (tg : Tg) (k : IK) (args ifs : List ME) (own : List Nat) (ρ : Rho) : ev (.comp elt tg k args ifs own) ρ = (pres args ρ).bind fun x => match (finL args x.1 x.2).bind (iterD k) with
    | none => .stuck
    | some items => match if items.length ≤ szl then wipeE own (lockE args x.2) else none with
      | none => .stuck
      | some ρ2 => (noexc (compLoop (ev elt) (evIfs ifs) tg own items ρ2)).bind fun y => .ok (.lst y.1, unlockE x.2 args (backE x.2 own y.2)) := rfl
@[simp] theorem ev_call (f : FnE) (args : List ME) (ρ : Rho) : ev (.call f args) ρ = (evArgs f.ks args ρ).bind fun x => match if refNd f.ks args then finArgs f.ks args x.1 x.2 else none with
    | none => .stuck
    | some ds => match f.F ds with
      | .stuck => .stuck
      | .exc c _ => if f.ks.contains .io then .stuck else .exc c x.2
      | .ok (d, outs) => match outArgs f.ks args outs x.2 with
        | none => .stuck
        | some ρ' => .ok (d, ρ') := rfl
@[simp] theorem ev_isi (a : ME) (t : String) (ρ : Rho) : ev (.isi a t) ρ = (pre a (ev a) ρ).bind fun x => match fin a x.1 x.2 with
    | some d => opt ((isiD d t).map .bl) x.2
    | none => .stuck := rfl
@[simp] theorem ev_b1 (b : B1) (a : ME) (ρ : Rho) : ev (.b1 b a) ρ = (pre a (ev a) ρ).bind fun x => match fin a x.1 x.2 with
    | some d => opt (b1D b d) x.2
    | none => .stuck := rfl
@[simp] theorem ev_idx (a i : ME) (ρ : Rho) : ev (.idx a i) ρ = (pre a (ev a) ρ).bind fun x => (pre i (ev i) x.2).bind fun y => match fin a x.1 y.2, fin i y.1 y.2 with
    | some p, some q => opt (idxD p q) y.2
    | _, _ => .stuck := rfl
@[simp] theorem ev_sl (a : ME) (lo hi : List ME) (ρ : Rho) : ev (.sl a lo hi) ρ = (pre a (ev a) ρ).bind fun x => (evPart lo x.2).bind fun y => (evPart hi y.2).bind fun z => match fin a x.1 z.2 with
    | some p => opt (slD p y.1 z.1) z.2
    | none => .stuck := rfl
@[simp] theorem evPart_nil (ρ : Rho) : evPart [] ρ = .ok (none, ρ) := rfl
@[simp] theorem evPart_one (m : ME) (ρ : Rho) : evPart [m] ρ = (ev m ρ).bind fun x => match x.1 with
    | .int i => .ok (some i, x.2)
    | _ => .stuck := rfl
@[simp] theorem ev_rev (a : ME) (ρ : Rho) : ev (.rev a) ρ = (pre a (ev a) ρ).bind fun x => match fin a x.1 x.2 with
    | some (.lst l) => .ok (.lst l.reverse, x.2)
    | some (.str l) => .ok (.str l.reverse, x.2)
    | _ => .stuck := rfl
@[simp] theorem ev_join (s a : ME) (ρ : Rho) : ev (.join s a) ρ = (ev s ρ).bind fun x => match x.1 with
    | .str s => (pre a (ev a) x.2).bind fun y => match fin a y.1 y.2 with
      | some (.lst l) => match allStr l with
        | some ls => if (ls.map List.length).sum + ls.length * s.length ≤ 16777216 then .ok (.str (joinL s ls), y.2) else .stuck
        | none => .stuck
      | _ => .stuck
    | _ => .stuck := rfl
@[simp] theorem ev_dsel (ks : List (List Nat)) (vs : List Int) (a : ME) (ρ : Rho) : ev (.dsel ks vs a) ρ = (ev a ρ).bind fun x => match x.1 with
    | .str s => match (ks.zip vs).find? fun p => decide (p.1 = s) with
      | some p => .ok (.int p.2, x.2)
      | none => .stuck
    | _ => .stuck := rfl
@[simp] theorem ev_dgetc (ks : List (List Nat)) (vs : List Int) (a : ME) (d : Int) (ρ : Rho) : ev (.dgetc ks vs a d) ρ = (ev a ρ).bind fun x => match x.1 with
    | .str s => match (ks.zip vs).find? fun p => decide (p.1 = s) with
      | some p => .ok (.int p.2, x.2)
      | none => .ok (.int d, x.2)
    | _ => .stuck := rfl
@[simp] theorem ev_get (a k d : ME) (ρ : Rho) : ev (.get a k d) ρ = (pre a (ev a) ρ).bind fun x => match fin a x.1 x.2 with
    | some (.dic _ _) => (ev k x.2).bind fun y => (ev d y.2).bind fun z => match fin a x.1 z.2 with
      | some (.dic ks vs) => if y.1.tkey then .ok ((keyAt y.1 ks vs).getD z.1, z.2) else .stuck
      | _ => .stuck
    | _ => .stuck := rfl
@[simp] theorem ev_cnt (a x : ME) (ρ : Rho) : ev (.cnt a x) ρ = (pre a (ev a) ρ).bind fun y => match fin a y.1 y.2 with
    | some (.lst _) => (pre x (ev x) y.2).bind fun z => match fin a y.1 z.2, fin x z.1 z.2 with
      | some (.lst l), some d => if d.dep ≤ 60 ∧ D.depL l ≤ 60 then .ok (.int (l.countP fun u => eqD u d : Nat), z.2) else .stuck
      | _, _ => .stuck
    | _ => .stuck := rfl
@[simp] theorem ev_fld (c : String) (k : Nat) (a : ME) (ρ : Rho) : ev (.fld c k a) ρ = (pre a (ev a) ρ).bind fun x => match fin a x.1 x.2 with
    | some (.obj c' l) => if c = c' then opt l[k]? x.2 else .stuck
    | _ => .stuck := rfl
@[simp] theorem ev_make (c : String) (f : FnE) (args : List ME) (ρ : Rho) : ev (.make c f args) ρ = (evs args ρ).bind fun x => match f.F (.obj c [] :: x.1) with
    | .stuck => .stuck
    | .exc n _ => .exc n x.2
    | .ok (d0, outs) => match d0, outs with
      | .non, [.obj c' l] => if c' = c then .ok (.obj c l, x.2) else .stuck
      | _, _ => .stuck := rfl
@[simp] theorem ev_meth (c : String) (f : FnE) (a : ME) (ρ : Rho) : ev (.meth c f a) ρ = (ev a ρ).bind fun x => match x.1 with
    | .obj c' l => if c = c' then match f.F [.obj c l] with
      | .ok (d, _) => .ok (d, x.2)
      | .exc n _ => .exc n x.2
      | .stuck => .stuck
      else .stuck
    | _ => .stuck := rfl
@[simp] theorem ev_pu (b : Bool) (f : List D → Option D) (args : List ME) (ρ : Rho) : ev (.pu b f args) ρ = (pres args ρ).bind fun x => match finL args x.1 x.2 with
    | some ds => opt (f ds) x.2
    | none => .stuck := rfl
@[simp] theorem evIfs_nil (ρ : Rho) : evIfs [] ρ = .ok (true, ρ) := rfl
@[simp] theorem evIfs_one (m : ME) (ρ : Rho) : evIfs [m] ρ = (ev m ρ).bind fun x => match x.1 with
      | .bl b => .ok (b, x.2)
      | _ => .stuck := rfl
@[simp] theorem evArgs_nil (ρ : Rho) : evArgs [] [] ρ = .ok ([], ρ) := rfl
@[simp] theorem evArgs_cons (p : PK) (ps : List PK) (m : ME) (ms : List ME) (ρ : Rho) : evArgs (p :: ps) (m :: ms) ρ = (evArg p m (ev m) ρ).bind fun x => (evArgs ps ms x.2).bind fun y => .ok (x.1 :: y.1, y.2) := rfl
@[simp] theorem evArg_im (m : ME) (e : Ev) (ρ : Rho) : evArg .im m e ρ = (e ρ).bind fun r => .ok (some r.1, r.2) := rfl
@[simp] theorem finArgs_nil (ρ : Rho) : finArgs [] [] [] ρ = some [] := rfl
@[simp] theorem finArgs_im (ps : List PK) (m : ME) (ms : List ME) (o : Option D) (os : List (Option D)) (ρ : Rho) : finArgs (.im :: ps) (m :: ms) (o :: os) ρ = match o, finArgs ps ms os ρ with
  | some d, some ds => some (d :: ds)
  | _, _ => none := rfl
@[simp] theorem outArgs_nil (ρ : Rho) : outArgs [] [] [] ρ = some ρ := rfl
@[simp] theorem outArgs_im (ps : List PK) (m : ME) (ms : List ME) (ds : List D) (ρ : Rho) : outArgs (.im :: ps) (m :: ms) ds ρ = outArgs ps ms ds ρ := by cases ds <;> rfl
@[simp] theorem refNd_nil : refNd [] [] = true := rfl
@[simp] theorem refNd_im (ps : List PK) (m : ME) (ms : List ME) : refNd (.im :: ps) (m :: ms) = refNd ps ms := rfl
/-! statements -/
@[simp] theorem evSs_nil (n : Nat) (ρ : Rho) : evSs n [] ρ = .ok (.nx, ρ) := rfl
theorem evSs_cons (n : Nat) (m : MS) (ms : List MS) (ρ : Rho) : evSs n (m :: ms) ρ = (evS n m ρ).bind fun r => match r.1 with
    | .nx => evSs n ms r.2
    | .ret v => .ok (.ret v, r.2) := rfl
theorem evSs_step {n : Nat} {m : MS} {ms : List MS} {ρ ρ' : Rho} (h : evS n m ρ = .ok (.nx, ρ')) : evSs n (m :: ms) ρ = evSs n ms ρ' := by
  rw [evSs_cons, h]
  rfl
theorem evSs_done {n : Nat} {m : MS} {ms : List MS} {ρ ρ' : Rho} {d : D} (h : evS n m ρ = .ok (.ret d, ρ')) : evSs n (m :: ms) ρ = .ok (.ret d, ρ') := by
  rw [evSs_cons, h]
  rfl
theorem run_ret {ks : List PK} {nN n : Nat} {fr : Bool} {ms : List MS} {ds : List D} {d : D} {ρ' : Rho} (h : evSs n ms (rho0 ks ds nN) = .ok (.ret d, ρ')) (hk : ks.contains .io = false) : runF ks nN fr n ms ds = .ok (d, []) := by
  unfold runF
  rw [h]
  show Out.ok (d, ioOuts ks ρ') = _
  rw [ioOuts_noio ks ρ' hk]
@[simp] theorem ixD0 {α : Type} (x : α) (l : List α) : ixD (x :: l) 0 = some x := rfl
@[simp] theorem ixD1 {α : Type} (x y : α) (l : List α) : ixD (x :: y :: l) 1 = some y := rfl
@[simp] theorem ixD2 {α : Type} (x y z : α) (l : List α) : ixD (x :: y :: z :: l) 2 = some z := rfl
@[simp] theorem ixD3 {α : Type} (x y z w : α) (l : List α) : ixD (x :: y :: z :: w :: l) 3 = some w := rfl
@[simp] theorem evS_asg (n : Nat) (tg : Tg) (e : ME) (ρ : Rho) : evS n (.asg tg e) ρ = (ev e ρ).bind fun x => match setT tg x.1 x.2 with
    | some ρ' => .ok (.nx, ρ')
    | none => .stuck := rfl
@[simp] theorem evS_ite (n : Nat) (c : ME) (a b : List MS) (ρ : Rho) : evS n (.ite c a b) ρ = (ev c ρ).bind fun x => match x.1 with
    | .bl true => evSs n a x.2
    | .bl false => evSs n b x.2
    | _ => .stuck := rfl
@[simp] theorem evS_ret (n : Nat) (e : ME) (ρ : Rho) : evS n (.ret e) ρ = (ev e ρ).bind fun x => .ok (.ret x.1, x.2) := rfl
@[simp] theorem evS_retN (n : Nat) (ρ : Rho) : evS n .retN ρ = .ok (.ret .non, ρ) := rfl
@[simp] theorem evS_rai (n : Nat) (c : String) (ρ : Rho) : evS n (.rai c) ρ = .exc c ρ := rfl
@[simp] theorem evS_exp (n : Nat) (e : ME) (ρ : Rho) : evS n (.exp e) ρ = (ev e ρ).bind fun x => .ok (.nx, x.2) := rfl
@[simp] theorem evS_asgF (n i : Nat) (e : ME) (ρ : Rho) : evS n (.asgF i e) ρ = if isFresh e then (ev e ρ).bind fun x => match setE x.2 i (.ow x.1) with
    | some ρ' => .ok (.nx, ρ')
    | none => .stuck else .stuck := rfl
@[simp] theorem evS_retF (n : Nat) (e : ME) (ρ : Rho) (h : ∀ i, e ≠ .var i) : evS n (.retF e) ρ = if isFresh e then (ev e ρ).bind fun x => .ok (.ret x.1, x.2) else .stuck := by cases e <;> first | rfl | exact absurd rfl (h _)
@[simp] theorem evS_retV (n i : Nat) (ρ : Rho) : evS n (.retF (.var i)) ρ = match ρ[i]? with
      | some (.ow d) => .ok (.ret d, ρ.set i .un)
      | _ => .stuck := rfl
@[simp] theorem evS_app (n i : Nat) (e : ME) (ρ : Rho) : evS n (.app i e) ρ = match owAt ρ i with
    | some (.lst _, _) => (ev e ρ).bind fun x => match owAt x.2 i with
      | some (d, f) => match appW d x.1 with
        | some d' => .ok (.nx, x.2.set i (f d'))
        | none => .stuck
      | none => .stuck
    | _ => .stuck := rfl
@[simp] theorem evS_setK (n i : Nat) (k v : ME) (ρ : Rho) : evS n (.setK i k v) ρ = (ev v ρ).bind fun x => match owAt x.2 i with
    | some _ => (ev k x.2).bind fun y => match owAt y.2 i with
      | some (d, f) => match setKW d y.1 x.1 with
        | some d' => .ok (.nx, y.2.set i (f d'))
        | none => .stuck
      | none => .stuck
    | none => .stuck := rfl
@[simp] theorem evS_setA (n : Nat) (c : String) (i k : Nat) (e : ME) (ρ : Rho) : evS n (.setA c i k e) ρ = (ev e ρ).bind fun x => match owAt x.2 i with
    | some (.obj c' l, f) => if c = c' ∧ l.length = k ∧ k < (flds c).length then .ok (.nx, x.2.set i (f (.obj c (l ++ [x.1])))) else .stuck
    | _ => .stuck := rfl
theorem evS_forD (n : Nat) (tg : Tg) (k : IK) (args : List ME) (body : List MS) (i j : Nat) (kk ee : ME) (ρ : Rho) : evS n (.forD tg k args body i j kk ee) ρ = (pres args ρ).bind fun x => match (finL args x.1 x.2).bind (iterD k) with
    | none => .stuck
    | some items => match (lockE args x.2)[i]? with
      | some (.ow (.dic [] [])) => unlockO x.2 args (rowLoop (evSs n body) (ev kk) (ev ee) tg i j items [] [] ((lockE args x.2).set i .hid))
      | _ => .stuck := rfl
@[simp] theorem isFresh_lst (l : List ME) : isFresh (.lst l) = true := rfl
@[simp] theorem isFresh_emp : isFresh .emp = true := rfl
@[simp] theorem isFresh_comp (elt : ME) (tg : Tg) (k : IK) (args ifs : List ME) (own : List Nat) : isFresh (.comp elt tg k args ifs own) = true := rfl
@[simp] theorem isFresh_call (f : FnE) (args : List ME) : isFresh (.call f args) = f.fresh := rfl
@[simp] theorem isFresh_meth (c : String) (f : FnE) (a : ME) : isFresh (.meth c f a) = f.fresh := rfl
@[simp] theorem isFresh_pu (b : Bool) (f : List D → Option D) (args : List ME) : isFresh (.pu b f args) = b := rfl
@[simp] theorem isFresh_list (a : ME) : isFresh (.b1 .list a) = true := rfl
@[simp] theorem owAt_eq (ρ : Rho) (i : Nat) : owAt ρ i = match ρ[i]? with
  | some (.ow d) => some (d, .ow)
  | some (.io d) => some (d, .io)
  | _ => none := rfl
theorem evS_for (n : Nat) (tg : Tg) (k : IK) (args : List ME) (body : List MS) (ρ : Rho) : evS n (.for tg k args body) ρ = (pres args ρ).bind fun x => match (finL args x.1 x.2).bind (iterD k) with
    | none => .stuck
    | some items => unlockO x.2 args (forLoop (evSs n body) tg items (lockE args x.2)) := rfl
@[simp] theorem setT_nm (i : Nat) (d : D) (ρ : Rho) : setT (.nm i) d ρ = setE ρ i (.im d) := rfl
@[simp] theorem setT_tp (l : List Nat) (ds : List D) (ρ : Rho) : setT (.tp l) (.tup ds) ρ = setTs l ds ρ := rfl
@[simp] theorem setTs_nil (ρ : Rho) : setTs [] [] ρ = some ρ := rfl
@[simp] theorem setTs_cons (i : Nat) (is : List Nat) (d : D) (ds : List D) (ρ : Rho) : setTs (i :: is) (d :: ds) ρ = match setE ρ i (.im d) with
    | some ρ' => setTs is ds ρ'
    | none => none := rfl
@[simp] theorem setE_eq (ρ : Rho) (i : Nat) (e : Ent) : setE ρ i e = match ρ[i]? with
  | some .un => some (ρ.set i e)
  | some (.im _) => some (ρ.set i e)
  | some (.ow _) => some (ρ.set i e)
  | _ => none := rfl
@[simp] theorem wipeE_nil (ρ : Rho) : wipeE [] ρ = some ρ := rfl
@[simp] theorem wipeE_cons (v : Nat) (vs : List Nat) (ρ : Rho) : wipeE (v :: vs) ρ = match ρ[v]? with
    | some .un => wipeE vs (ρ.set v .un)
    | some (.im _) => wipeE vs (ρ.set v .un)
    | _ => none := rfl
@[simp] theorem backE_nil (ρ0 ρ : Rho) : backE ρ0 [] ρ = ρ := rfl
@[simp] theorem backE_cons (ρ0 : Rho) (v : Nat) (vs : List Nat) (ρ : Rho) : backE ρ0 (v :: vs) ρ = backE ρ0 vs (ρ.set v (ρ0[v]?.getD .un)) := rfl
@[simp] theorem noexc_ok {α : Type} (a : α) : noexc (Out.ok a) = Out.ok a := rfl
end NV

/-! The program's defs, and those that the laws share, as data. -/
namespace PG
open NV
def m_are_letters : List MS := [.ite (.or [(.not (.isi (.var 0) "str")), (.cmp .gt (.b1 .len (.var 0)) (.cst (.int 4)))]) [.ret (.cst (.bl false))] [], .ret (.b1 .all (.comp (.cmp .isin (.var 1) (.cst (.str [97, 98, 99, 100, 101, 102, 103, 104, 105, 106, 107, 108, 109, 110, 111, 112, 113, 114, 115, 116, 117, 118, 119, 120, 121, 122]))) (.nm 1) .seq [(.var 0)] [] [1]))]
def E_are_letters : FnE := ⟨[.im], false, runF [.im] 2 false 0 m_are_letters⟩
@[simp] theorem ks_are_letters : E_are_letters.ks = [.im] := rfl
@[simp] theorem fr_are_letters : E_are_letters.fresh = false := rfl
theorem F_are_letters (ds : List D) : E_are_letters.F ds = runF [.im] 2 false 0 m_are_letters ds := rfl

def m_is_signs : List MS := [.ite (.or [(.not (.isi (.var 0) "tuple")), (.cmp .ne (.b1 .len (.var 0)) (.cst (.int 3))), (.not (.b1 .all (.comp (.call E_are_letters [(.var 2)]) (.nm 2) .seq [(.var 0)] [] [2])))]) [.ret (.cst (.bl false))] [], .asg (.nm 1) (.bin .add (.bin .add (.idx (.var 0) (.cst (.int 0))) (.idx (.var 0) (.cst (.int 1)))) (.idx (.var 0) (.cst (.int 2)))), .ret (.cmp .eq (.b1 .lenset (.var 1)) (.b1 .len (.var 1)))]
def E_is_signs : FnE := ⟨[.im], false, runF [.im] 3 false 0 m_is_signs⟩
@[simp] theorem ks_is_signs : E_is_signs.ks = [.im] := rfl
@[simp] theorem fr_is_signs : E_is_signs.fresh = false := rfl
theorem F_is_signs (ds : List D) : E_is_signs.F ds = runF [.im] 3 false 0 m_is_signs ds := rfl

def m_need_signs : List MS := [.ite (.not (.call E_is_signs [(.var 0)])) [.rai "BadSigns"] []]
def E_need_signs : FnE := ⟨[.im], false, runF [.im] 1 false 0 m_need_signs⟩
@[simp] theorem ks_need_signs : E_need_signs.ks = [.im] := rfl
@[simp] theorem fr_need_signs : E_need_signs.fresh = false := rfl
theorem F_need_signs (ds : List D) : E_need_signs.F ds = runF [.im] 1 false 0 m_need_signs ds := rfl

def m_kind_of : List MS := [.ite (.or [(.not (.isi (.var 1) "str")), (.cmp .ne (.b1 .len (.var 1)) (.cst (.int 1)))]) [.ret (.cst (.str []))] [], .for (.tp [2, 3]) .zip [(.tup [(.cst (.str [111, 112, 101, 110])), (.cst (.str [99, 108, 111, 115, 101])), (.cst (.str [111, 110]))]), (.var 0)] [.ite (.cmp .isin (.var 1) (.var 3)) [.ret (.var 2)] []], .ret (.cst (.str []))]
def E_kind_of : FnE := ⟨[.im, .im], false, runF [.im, .im] 4 false 0 m_kind_of⟩
@[simp] theorem ks_kind_of : E_kind_of.ks = [.im, .im] := rfl
@[simp] theorem fr_kind_of : E_kind_of.fresh = false := rfl
theorem F_kind_of (ds : List D) : E_kind_of.F ds = runF [.im, .im] 4 false 0 m_kind_of ds := rfl

def m_is_room : List MS := [.ret (.and [(.isi (.var 0) "int"), (.not (.isi (.var 0) "bool")), (.chn .le .lt (.cst (.int 0)) (.var 0) (.var 1))])]
def E_is_room : FnE := ⟨[.im, .im], false, runF [.im, .im] 2 false 0 m_is_room⟩
@[simp] theorem ks_is_room : E_is_room.ks = [.im, .im] := rfl
@[simp] theorem fr_is_room : E_is_room.fresh = false := rfl
theorem F_is_room (ds : List D) : E_is_room.F ds = runF [.im, .im] 2 false 0 m_is_room ds := rfl

def m_are_rooms : List MS := [.ite (.or [(.not (.isi (.var 0) "list")), (.not (.b1 .all (.comp (.call E_is_room [(.var 2), (.var 1)]) (.nm 2) .seq [(.var 0)] [] [2])))]) [.ret (.cst (.bl false))] [], .ret (.cmp .eq (.b1 .lenset (.var 0)) (.b1 .len (.var 0)))]
def E_are_rooms : FnE := ⟨[.im, .im], false, runF [.im, .im] 3 false 0 m_are_rooms⟩
@[simp] theorem ks_are_rooms : E_are_rooms.ks = [.im, .im] := rfl
@[simp] theorem fr_are_rooms : E_are_rooms.fresh = false := rfl
theorem F_are_rooms (ds : List D) : E_are_rooms.F ds = runF [.im, .im] 3 false 0 m_are_rooms ds := rfl

def m_is_way : List MS := [.ite (.or [(.not (.isi (.var 0) "tuple")), (.cmp .lt (.b1 .len (.var 0)) (.cst (.int 4))), (.not (.isi (.idx (.var 0) (.cst (.int 0))) "str"))]) [.ret (.cst (.bl false))] [], .ite (.cmp .ne (.b1 .len (.var 0)) (.dgetc [[111, 110], [111, 112, 101, 110], [99, 108, 111, 115, 101]] [4, 5, 5] (.idx (.var 0) (.cst (.int 0))) 0)) [.ret (.cst (.bl false))] [], .asg (.nm 3) (.ife (.cmp .eq (.idx (.var 0) (.cst (.int 0))) (.cst (.str [99, 108, 111, 115, 101]))) (.cst (.int 3)) (.cst (.int 2))), .ite (.cmp .ne (.call E_kind_of [(.var 1), (.idx (.var 0) (.var 3))]) (.idx (.var 0) (.cst (.int 0)))) [.ret (.cst (.bl false))] [], .ret (.b1 .all (.comp (.call E_is_room [(.var 4), (.var 2)]) (.nm 4) .seq [(.bin .add (.sl (.var 0) [(.cst (.int 1))] [(.var 3)]) (.sl (.var 0) [(.bin .add (.var 3) (.cst (.int 1)))] []))] [] [4]))]
def E_is_way : FnE := ⟨[.im, .im, .im], false, runF [.im, .im, .im] 5 false 0 m_is_way⟩
@[simp] theorem ks_is_way : E_is_way.ks = [.im, .im, .im] := rfl
@[simp] theorem fr_is_way : E_is_way.fresh = false := rfl
theorem F_is_way (ds : List D) : E_is_way.F ds = runF [.im, .im, .im] 5 false 0 m_is_way ds := rfl

def m_Machine___init__ : List MS := [.exp (.call E_need_signs [(.var 1)]), .ite (.or [(.not (.call E_is_room [(.var 2), (.bin .add (.cst (.int 40)) (.cst (.int 1)))])), (.cmp .lt (.var 2) (.cst (.int 1)))]) [.rai "BadMachine"] [], .ite (.or [(.not (.call E_are_rooms [(.var 3), (.var 2)])), (.not (.call E_are_rooms [(.var 4), (.var 2)]))]) [.rai "BadMachine"] [], .ite (.or [(.not (.isi (.var 5) "list")), (.cmp .gt (.b1 .len (.var 5)) (.cst (.int 4000)))]) [.rai "BadMachine"] [], .asgF 6 .emp, .for (.nm 7) .seq [(.var 5)] [.ite (.not (.call E_is_way [(.var 7), (.var 1), (.var 2)])) [.rai "BadMachine"] [], .setK 6 (.var 7) (.cst (.bl true))], .setA "Machine" 0 0 (.var 1), .setA "Machine" 0 1 (.var 2), .setA "Machine" 0 2 (.pu true (one sortedD) [(.var 3)]), .setA "Machine" 0 3 (.pu true (one sortedD) [(.var 4)]), .setA "Machine" 0 4 (.pu true (one sortedD) [(.var 6)])]
def E_Machine___init__ : FnE := ⟨[.io, .im, .im, .im, .im, .im], false, runF [.io, .im, .im, .im, .im, .im] 8 false 0 m_Machine___init__⟩
@[simp] theorem ks_Machine___init__ : E_Machine___init__.ks = [.io, .im, .im, .im, .im, .im] := rfl
@[simp] theorem fr_Machine___init__ : E_Machine___init__.fresh = false := rfl
theorem F_Machine___init__ (ds : List D) : E_Machine___init__.F ds = runF [.io, .im, .im, .im, .im, .im] 8 false 0 m_Machine___init__ ds := rfl

def m_Machine_signs : List MS := [.ret (.fld "Machine" 0 (.var 0))]
def E_Machine_signs : FnE := ⟨[.im], false, runF [.im] 1 false 0 m_Machine_signs⟩
@[simp] theorem ks_Machine_signs : E_Machine_signs.ks = [.im] := rfl
@[simp] theorem fr_Machine_signs : E_Machine_signs.fresh = false := rfl
theorem F_Machine_signs (ds : List D) : E_Machine_signs.F ds = runF [.im] 1 false 0 m_Machine_signs ds := rfl

def m_Machine_rooms : List MS := [.ret (.fld "Machine" 1 (.var 0))]
def E_Machine_rooms : FnE := ⟨[.im], false, runF [.im] 1 false 0 m_Machine_rooms⟩
@[simp] theorem ks_Machine_rooms : E_Machine_rooms.ks = [.im] := rfl
@[simp] theorem fr_Machine_rooms : E_Machine_rooms.fresh = false := rfl
theorem F_Machine_rooms (ds : List D) : E_Machine_rooms.F ds = runF [.im] 1 false 0 m_Machine_rooms ds := rfl

def m_Machine_starts : List MS := [.retF (.b1 .list (.fld "Machine" 2 (.var 0)))]
def E_Machine_starts : FnE := ⟨[.im], true, runF [.im] 1 true 0 m_Machine_starts⟩
@[simp] theorem ks_Machine_starts : E_Machine_starts.ks = [.im] := rfl
@[simp] theorem fr_Machine_starts : E_Machine_starts.fresh = true := rfl
theorem F_Machine_starts (ds : List D) : E_Machine_starts.F ds = runF [.im] 1 true 0 m_Machine_starts ds := rfl

def m_Machine_ends : List MS := [.retF (.b1 .list (.fld "Machine" 3 (.var 0)))]
def E_Machine_ends : FnE := ⟨[.im], true, runF [.im] 1 true 0 m_Machine_ends⟩
@[simp] theorem ks_Machine_ends : E_Machine_ends.ks = [.im] := rfl
@[simp] theorem fr_Machine_ends : E_Machine_ends.fresh = true := rfl
theorem F_Machine_ends (ds : List D) : E_Machine_ends.F ds = runF [.im] 1 true 0 m_Machine_ends ds := rfl

def m_Machine_ways : List MS := [.retF (.b1 .list (.fld "Machine" 4 (.var 0)))]
def E_Machine_ways : FnE := ⟨[.im], true, runF [.im] 1 true 0 m_Machine_ways⟩
@[simp] theorem ks_Machine_ways : E_Machine_ways.ks = [.im] := rfl
@[simp] theorem fr_Machine_ways : E_Machine_ways.fresh = true := rfl
theorem F_Machine_ways (ds : List D) : E_Machine_ways.F ds = runF [.im] 1 true 0 m_Machine_ways ds := rfl

def m_index_of : List MS := [.asgF 1 .emp, .forD (.nm 2) .seq [(.meth "Machine" E_Machine_ways (.var 0))] [.asg (.nm 3) (.idx (.var 2) (.neg (.cst (.int 1)))), .asg (.nm 4) (.sl (.var 2) [] [(.neg (.cst (.int 1)))]), .ite (.cmp .eq (.idx (.var 2) (.cst (.int 0))) (.cst (.str [111, 112, 101, 110]))) [.asg (.nm 3) (.sl (.var 2) [(.cst (.int 3))] []), .asg (.nm 4) (.sl (.var 2) [] [(.cst (.int 3))])] []] 1 5 (.var 4) (.var 3), .ret (.var 1)]
def E_index_of : FnE := ⟨[.im], false, runF [.im] 6 false 0 m_index_of⟩
@[simp] theorem ks_index_of : E_index_of.ks = [.im] := rfl
@[simp] theorem fr_index_of : E_index_of.fresh = false := rfl
theorem F_index_of (ds : List D) : E_index_of.F ds = runF [.im] 6 false 0 m_index_of ds := rfl

def m_is_plain : List MS := [.asg (.nm 1) (.call E_index_of [(.var 0)]), .asg (.tp [3, 4, 5]) (.meth "Machine" E_Machine_signs (.var 0)), .ite (.cmp .ne (.b1 .len (.meth "Machine" E_Machine_starts (.var 0))) (.cst (.int 1))) [.ret (.cst (.bl false))] [], .for (.nm 2) .rng1 [(.meth "Machine" E_Machine_rooms (.var 0))] [.asg (.nm 6) (.bin .add (.comp (.tup [(.cst (.str [111, 110])), (.var 2), (.var 7)]) (.nm 7) .seq [(.var 5)] [] [7]) (.comp (.tup [(.cst (.str [111, 112, 101, 110])), (.var 2), (.var 7)]) (.nm 7) .seq [(.var 3)] [] [7])), .for (.nm 7) .seq [(.var 4)] [.asg (.nm 6) (.bin .add (.var 6) (.comp (.tup [(.cst (.str [99, 108, 111, 115, 101])), (.var 2), (.var 8), (.var 7)]) (.nm 8) .rng1 [(.meth "Machine" E_Machine_rooms (.var 0))] [] [8]))], .ite (.not (.b1 .all (.comp (.cmp .eq (.b1 .len (.get (.var 1) (.var 9) (.lst []))) (.cst (.int 1))) (.nm 9) .seq [(.var 6)] [] [9]))) [.ret (.cst (.bl false))] []], .ret (.cst (.bl true))]
def E_is_plain : FnE := ⟨[.im], false, runF [.im] 10 false 0 m_is_plain⟩
@[simp] theorem ks_is_plain : E_is_plain.ks = [.im] := rfl
@[simp] theorem fr_is_plain : E_is_plain.fresh = false := rfl
theorem F_is_plain (ds : List D) : E_is_plain.F ds = runF [.im] 10 false 0 m_is_plain ds := rfl

def m__law_cell_at : List MS := [.ite (.cmp .lt (.var 1) (.b1 .len (.var 0))) [.ret (.idx (.var 0) (.var 1))] [], .ret (.cst (.int 0))]
def E__law_cell_at : FnE := ⟨[.im, .im], false, runF [.im, .im] 2 false 0 m__law_cell_at⟩
@[simp] theorem ks__law_cell_at : E__law_cell_at.ks = [.im, .im] := rfl
@[simp] theorem fr__law_cell_at : E__law_cell_at.fresh = false := rfl
theorem F__law_cell_at (ds : List D) : E__law_cell_at.F ds = runF [.im, .im] 2 false 0 m__law_cell_at ds := rfl

def m__law_mixed : List MS := [.ret (.bin .mod (.bin .add (.bin .mul (.var 0) (.cst (.int 48271))) (.bin .mul (.cst (.int 7919)) (.var 1))) (.cst (.int 1000003)))]
def E__law_mixed : FnE := ⟨[.im, .im], false, runF [.im, .im] 2 false 0 m__law_mixed⟩
@[simp] theorem ks__law_mixed : E__law_mixed.ks = [.im, .im] := rfl
@[simp] theorem fr__law_mixed : E__law_mixed.fresh = false := rfl
theorem F__law_mixed (ds : List D) : E__law_mixed.F ds = runF [.im, .im] 2 false 0 m__law_mixed ds := rfl

def m__law_signs_by : List MS := [.asg (.nm 1) (.cst (.str [97, 98, 99, 100, 101, 102, 103, 104, 105, 106, 107, 108, 109, 110, 111, 112, 113, 114, 115, 116, 117, 118, 119, 120, 121, 122])), .asg (.nm 2) (.bin .add (.cst (.int 1)) (.bin .mul (.cst (.int 2)) (.bin .mod (.bin .div (.var 0) (.cst (.int 26))) (.cst (.int 5))))), .asg (.nm 3) (.join (.cst (.str [])) (.comp (.idx (.var 1) (.bin .mod (.bin .add (.var 0) (.bin .mul (.var 2) (.var 6))) (.cst (.int 26)))) (.nm 6) .rng1 [(.cst (.int 6))] [] [6])), .asg (.nm 4) (.idx (.lst [(.cst (.int 1)), (.cst (.int 1)), (.cst (.int 2)), (.cst (.int 0))]) (.bin .mod (.bin .div (.var 0) (.cst (.int 130))) (.cst (.int 4)))), .asg (.nm 5) (.bin .add (.var 4) (.idx (.lst [(.cst (.int 1)), (.cst (.int 2)), (.cst (.int 1)), (.cst (.int 1)), (.cst (.int 0))]) (.bin .mod (.bin .div (.var 0) (.cst (.int 520))) (.cst (.int 5))))), .ret (.tup [(.sl (.var 3) [] [(.var 4)]), (.sl (.var 3) [(.var 4)] [(.var 5)]), (.sl (.var 3) [(.var 5)] [(.bin .add (.var 5) (.bin .mod (.bin .div (.var 0) (.cst (.int 2600))) (.cst (.int 3))))])])]
def E__law_signs_by : FnE := ⟨[.im], false, runF [.im] 7 false 0 m__law_signs_by⟩
@[simp] theorem ks__law_signs_by : E__law_signs_by.ks = [.im] := rfl
@[simp] theorem fr__law_signs_by : E__law_signs_by.fresh = false := rfl
theorem F__law_signs_by (ds : List D) : E__law_signs_by.F ds = runF [.im] 7 false 0 m__law_signs_by ds := rfl

def m__law_any_signs_by : List MS := [.ite (.cmp .ne (.bin .mod (.bin .div (.var 0) (.cst (.int 7800))) (.cst (.int 8))) (.cst (.int 3))) [.ret (.call E__law_signs_by [(.var 0)])] [], .asg (.nm 1) (.cst (.str [97, 98, 99, 100, 101, 102, 103, 104, 105, 106, 107, 108, 109, 110, 111, 112, 113, 114, 115, 116, 117, 118, 119, 120, 121, 122])), .asg (.nm 2) (.bin .add (.cst (.int 1)) (.bin .mul (.cst (.int 2)) (.bin .mod (.bin .div (.var 0) (.cst (.int 26))) (.cst (.int 5))))), .asg (.nm 3) (.join (.cst (.str [])) (.comp (.idx (.var 1) (.bin .mod (.bin .add (.var 0) (.bin .mul (.var 2) (.var 6))) (.cst (.int 26)))) (.nm 6) .rng1 [(.cst (.int 12))] [] [6])), .asg (.nm 4) (.bin .add (.cst (.int 1)) (.bin .mod (.bin .div (.var 0) (.cst (.int 130))) (.cst (.int 4)))), .asg (.nm 5) (.bin .add (.bin .add (.var 4) (.cst (.int 1))) (.bin .mod (.bin .div (.var 0) (.cst (.int 520))) (.cst (.int 4)))), .ret (.tup [(.sl (.var 3) [] [(.var 4)]), (.sl (.var 3) [(.var 4)] [(.var 5)]), (.sl (.var 3) [(.var 5)] [(.bin .add (.bin .add (.var 5) (.cst (.int 1))) (.bin .mod (.bin .div (.var 0) (.cst (.int 2600))) (.cst (.int 4))))])])]
def E__law_any_signs_by : FnE := ⟨[.im], false, runF [.im] 7 false 0 m__law_any_signs_by⟩
@[simp] theorem ks__law_any_signs_by : E__law_any_signs_by.ks = [.im] := rfl
@[simp] theorem fr__law_any_signs_by : E__law_any_signs_by.fresh = false := rfl
theorem F__law_any_signs_by (ds : List D) : E__law_any_signs_by.F ds = runF [.im] 7 false 0 m__law_any_signs_by ds := rfl

def m__law_way_by : List MS := [.asg (.nm 5) (.bin .mod (.bin .div (.var 0) (.cst (.int 4))) (.var 2)), .asg (.nm 6) (.bin .mod (.bin .div (.var 0) (.cst (.int 16))) (.var 2)), .asg (.nm 7) (.bin .mod (.bin .div (.var 0) (.cst (.int 64))) (.var 2)), .ite (.and [(.cmp .eq (.bin .mod (.var 0) (.cst (.int 4))) (.cst (.int 0))), (.cmp .lt (.b1 .len (.var 3)) (.var 4)), (.cmp .ne (.idx (.var 1) (.cst (.int 0))) (.cst (.str [])))]) [.ite (.and [(.cmp .ne (.var 3) (.lst [])), (.cmp .eq (.bin .mod (.bin .div (.var 0) (.cst (.int 1024))) (.cst (.int 3))) (.cst (.int 0)))]) [.ret (.bin .add (.sl (.idx (.var 3) (.cst (.int 0))) [] [(.cst (.int 3))]) (.tup [(.var 6), (.var 7)]))] [], .ite (.and [(.cmp .ne (.var 3) (.lst [])), (.cmp .eq (.bin .mod (.bin .div (.var 0) (.cst (.int 1024))) (.cst (.int 3))) (.cst (.int 1)))]) [.ret (.tup [(.cst (.str [111, 112, 101, 110])), (.bin .sub (.bin .sub (.var 2) (.cst (.int 1))) (.idx (.idx (.var 3) (.cst (.int 0))) (.cst (.int 1)))), (.idx (.idx (.var 3) (.cst (.int 0))) (.cst (.int 2))), (.var 6), (.var 7)])] [], .ret (.tup [(.cst (.str [111, 112, 101, 110])), (.var 5), (.idx (.idx (.var 1) (.cst (.int 0))) (.bin .mod (.bin .div (.var 0) (.cst (.int 256))) (.b1 .len (.idx (.var 1) (.cst (.int 0)))))), (.var 6), (.var 7)])] [], .ite (.and [(.cmp .lt (.bin .mod (.var 0) (.cst (.int 4))) (.cst (.int 2))), (.cmp .ne (.idx (.var 1) (.cst (.int 1))) (.cst (.str [])))]) [.ite (.and [(.cmp .ne (.var 3) (.lst [])), (.cmp .gt (.bin .mod (.bin .div (.var 0) (.cst (.int 1024))) (.cst (.int 4))) (.cst (.int 0)))]) [.asg (.tp [5, 6]) (.sl (.idx (.var 3) (.bin .mod (.bin .div (.var 0) (.cst (.int 16))) (.b1 .len (.var 3)))) [(.cst (.int 3))] [])] [], .ret (.tup [(.cst (.str [99, 108, 111, 115, 101])), (.var 5), (.var 6), (.idx (.idx (.var 1) (.cst (.int 1))) (.bin .mod (.bin .div (.var 0) (.cst (.int 256))) (.b1 .len (.idx (.var 1) (.cst (.int 1)))))), (.var 7)])] [], .ite (.cmp .ne (.idx (.var 1) (.cst (.int 2))) (.cst (.str []))) [.ret (.tup [(.cst (.str [111, 110])), (.var 5), (.idx (.idx (.var 1) (.cst (.int 2))) (.bin .mod (.bin .div (.var 0) (.cst (.int 256))) (.b1 .len (.idx (.var 1) (.cst (.int 2)))))), (.var 6)])] [], .ret (.cst .non)]
def E__law_way_by : FnE := ⟨[.im, .im, .im, .im, .im], false, runF [.im, .im, .im, .im, .im] 8 false 0 m__law_way_by⟩
@[simp] theorem ks__law_way_by : E__law_way_by.ks = [.im, .im, .im, .im, .im] := rfl
@[simp] theorem fr__law_way_by : E__law_way_by.fresh = false := rfl
theorem F__law_way_by (ds : List D) : E__law_way_by.F ds = runF [.im, .im, .im, .im, .im] 8 false 0 m__law_way_by ds := rfl

def m__law_parts_by : List MS := [.asg (.nm 4) (.bin .add (.cst (.int 1)) (.bin .mod (.call E__law_cell_at [(.var 0), (.var 1)]) (.var 3))), .asg (.nm 5) (.idx (.lst [(.cst (.int 4)), (.cst (.int 2)), (.cst (.int 1)), (.cst (.int 1))]) (.bin .sub (.var 4) (.cst (.int 1)))), .asg (.nm 6) (.comp (.var 12) (.nm 12) .rng1 [(.var 4)] [(.cmp .gt (.bin .mod (.bin .div (.call E__law_cell_at [(.var 0), (.bin .add (.var 1) (.cst (.int 1)))]) (.bin .add (.bin .mul (.cst (.int 4)) (.var 12)) (.cst (.int 1)))) (.cst (.int 3))) (.cst (.int 0)))] [12]), .asg (.nm 7) (.comp (.var 12) (.nm 12) .rng1 [(.var 4)] [(.cmp .eq (.bin .mod (.bin .div (.call E__law_cell_at [(.var 0), (.bin .add (.var 1) (.cst (.int 1)))]) (.bin .add (.bin .mul (.cst (.int 5)) (.var 12)) (.cst (.int 7)))) (.cst (.int 2))) (.cst (.int 0)))] [12]), .asgF 8 (.lst []), .for (.nm 9) .rng1 [(.bin .add (.cst (.int 2)) (.bin .mod (.bin .div (.call E__law_cell_at [(.var 0), (.var 1)]) (.cst (.int 4))) (.cst (.int 9))))] [.asg (.nm 10) (.comp (.var 11) (.nm 11) .seq [(.var 8)] [(.cmp .eq (.idx (.var 11) (.cst (.int 0))) (.cst (.str [111, 112, 101, 110])))] [11]), .asg (.nm 11) (.call E__law_way_by [(.call E__law_mixed [(.call E__law_cell_at [(.var 0), (.bin .add (.bin .add (.var 1) (.cst (.int 2))) (.var 9))]), (.var 9)]), (.var 2), (.var 4), (.var 10), (.var 5)]), .ite (.cmp .notn (.var 11) (.cst .non)) [.app 8 (.var 11)] []], .ret (.tup [(.var 2), (.var 4), (.var 6), (.var 7), (.var 8)])]
def E__law_parts_by : FnE := ⟨[.im, .im, .im, .im], false, runF [.im, .im, .im, .im] 13 false 0 m__law_parts_by⟩
@[simp] theorem ks__law_parts_by : E__law_parts_by.ks = [.im, .im, .im, .im] := rfl
@[simp] theorem fr__law_parts_by : E__law_parts_by.fresh = false := rfl
theorem F__law_parts_by (ds : List D) : E__law_parts_by.F ds = runF [.im, .im, .im, .im] 13 false 0 m__law_parts_by ds := rfl

def m__law_made : List MS := [.ret (.make "Machine" E_Machine___init__ [(.idx (.var 0) (.cst (.int 0))), (.idx (.var 0) (.cst (.int 1))), (.b1 .list (.idx (.var 0) (.cst (.int 2)))), (.b1 .list (.idx (.var 0) (.cst (.int 3)))), (.b1 .list (.idx (.var 0) (.cst (.int 4))))])]
def E__law_made : FnE := ⟨[.im], false, runF [.im] 1 false 0 m__law_made⟩
@[simp] theorem ks__law_made : E__law_made.ks = [.im] := rfl
@[simp] theorem fr__law_made : E__law_made.fresh = false := rfl
theorem F__law_made (ds : List D) : E__law_made.F ds = runF [.im] 1 false 0 m__law_made ds := rfl
end PG

namespace PG
open NV
def tyOk : D → Bool
  | .obj _ _ => false
  | .adr _ => false
  | .scr _ => false
  | _ => true
def isLet (c : Nat) : Bool := decide (97 ≤ c) && decide (c ≤ 122)
def areL : D → Bool
  | .str s => decide (s.length ≤ 4) && s.all isLet
  | _ => false
def abc : List Nat := [97, 98, 99, 100, 101, 102, 103, 104, 105, 106, 107, 108, 109, 110, 111, 112, 113, 114, 115, 116, 117, 118, 119, 120, 121, 122]
theorem abc_mem (c : Nat) : abc.contains c = isLet c := by
  unfold abc isLet
  rw [Bool.eq_iff_iff]
  simp
  omega
theorem are_letters_eq (d : D) (h : tyOk d = true) : E_are_letters.F [d] = .ok (.bl (areL d), []) := by
  rw [F_are_letters]
  unfold runF m_are_letters
  cases d with
  | obj _ _ => cases h
  | adr _ => cases h
  | scr _ => cases h
  | str s =>
    by_cases hs : s.length ≤ 4
    · have hz : s.length ≤ szl := by unfold szl; omega
      have e := compLoop_map (elt := ev (.cmp .isin (.var 1) (.cst (.str abc)))) (ifs := evIfs []) (tg := .nm 1) (own := [1]) (ρ := [.im (.str s), .un]) (f := fun d => match d with | .str [c] => .bl (isLet c) | _ => .non) (items := s.map fun c => D.str [c]) (fun d hd => by
          obtain ⟨c, _, rfl⟩ := List.mem_map.mp hd
          simp [compStep, cmpD, inD, wiped, ← abc_mem])
      rw [List.map_map] at e
      have e1 : ((fun d => match d with | .str [c] => D.bl (isLet c) | _ => .non) ∘ fun c => D.str [c]) = fun c => D.bl (isLet c) := rfl
      rw [e1] at e
      unfold abc at e
      have e2 : ¬ (4 < (s.length : Int)) := by omega
      simp [evSs_cons, ev_comp, rho0, entOf, isiD, tyN, tyL, isiB, b1D, lenD, cmpD, iterD, itemsD, lockE, unlockE, hz, e2, e, allBl_map, areL, hs]
    · have e2 : (4 < (s.length : Int)) := by omega
      simp [evSs_cons, rho0, entOf, isiD, tyN, tyL, isiB, b1D, lenD, cmpD, e2, areL, hs]
  | _ => simp [evSs_cons, rho0, entOf, isiD, tyN, tyL, isiB, areL]
/-- what is asked of signs -/
def okT : D → Bool
  | .tup l => l.all tyOk
  | d => tyOk d
def isSg : D → Bool
  | .tup [.str a, .str b, .str c] => areL (.str a) && areL (.str b) && areL (.str c) && decide ((a ++ b ++ c).Nodup)
  | _ => false
theorem areL_str {d : D} (h : areL d = true) : ∃ s, d = .str s ∧ s.length ≤ 4 ∧ s.all isLet = true := by
  cases d with
  | str s =>
    have h : (decide (s.length ≤ 4) && s.all isLet) = true := h
    rw [Bool.and_eq_true, decide_eq_true_eq] at h
    exact ⟨s, rfl, h.1, h.2⟩
  | _ => cases h
theorem is_signs_eq (d : D) (h : okT d = true) : E_is_signs.F [d] = .ok (.bl (isSg d), []) := by
  rw [F_is_signs]
  unfold runF m_is_signs
  cases d with
  | obj _ _ => cases h
  | adr _ => cases h
  | scr _ => cases h
  | tup l =>
    match l, h with
    | [x, y, z], h =>
      have hx : tyOk x = true ∧ tyOk y = true ∧ tyOk z = true := by simpa [okT] using h
      obtain ⟨hx, hy, hz⟩ := hx
      have e := compLoop_map (elt := ev (.call E_are_letters [.var 2])) (ifs := evIfs []) (tg := .nm 2) (own := [2]) (ρ := [.im (.tup [x, y, z]), .un, .un]) (f := fun d => .bl (areL d)) (items := [x, y, z]) (fun d hd => by
        have hd' : tyOk d = true := by
          rcases List.mem_cons.mp hd with rfl | hd
          · exact hx
          · rcases List.mem_cons.mp hd with rfl | hd
            · exact hy
            · rw [List.mem_singleton.mp hd]; exact hz
        simp [compStep, are_letters_eq d hd', wiped])
      have c3 : (3 : Nat) ≤ szl := by decide
      by_cases ha : (areL x && areL y && areL z) = true
      · rw [Bool.and_eq_true, Bool.and_eq_true] at ha
        obtain ⟨⟨h1, h2⟩, h3⟩ := ha
        obtain ⟨a, rfl, a1, a2⟩ := areL_str h1
        obtain ⟨b, rfl, b1, b2⟩ := areL_str h2
        obtain ⟨c, rfl, c1, c2⟩ := areL_str h3
        have l1 : a.length + b.length ≤ szl := by unfold szl; omega
        have l2 : a.length + b.length + c.length ≤ szl := by unfold szl; omega
        have l3 : a.length + (b.length + c.length) ≤ szl := by unfold szl; omega
        have l4 : a.length + (b.length + c.length) ≤ 4000 := by omega
        have nd := metN_nodup (a ++ (b ++ c))
        simp only [List.length_append] at nd
        have e5 : ((metN (a ++ (b ++ c)) : Int) == (a.length : Int) + ((b.length : Int) + (c.length : Int))) = decide ((a ++ (b ++ c)).Nodup) := by
          rw [Bool.eq_iff_iff, decide_eq_true_eq, ← nd]
          simp
          omega
        simp [evSs_cons, ev_comp, rho0, entOf, isiD, tyN, tyL, isiB, b1D, lenD, cmpD, eqOk, eqD, D.dep, iterD, itemsD, lockE, unlockE, c3, e, allBl, h1, h2, h3, idxD, ixD, binD, addD, l1, l2, l3, l4, isSg, e5]
      · have hf : (areL x && (areL y && areL z)) = false := by simpa [Bool.and_assoc] using ha
        have hs : isSg (.tup [x, y, z]) = false := by
          cases hq : isSg (.tup [x, y, z]) with
          | false => rfl
          | true =>
            exfalso
            cases x <;> cases y <;> cases z <;> simp [isSg] at hq
            exact ha (by simp [hq])
        rw [hs]
        simp [evSs_cons, ev_comp, rho0, entOf, isiD, tyN, tyL, isiB, b1D, lenD, cmpD, eqOk, eqD, D.dep, iterD, itemsD, lockE, unlockE, c3, e, allBl, hf]
    | [], h => simp [evSs_cons, rho0, entOf, isiD, tyN, tyL, isiB, b1D, lenD, cmpD, eqOk, eqD, D.dep, isSg]
    | [x], h => simp [evSs_cons, rho0, entOf, isiD, tyN, tyL, isiB, b1D, lenD, cmpD, eqOk, eqD, D.dep, isSg]
    | [x, y], h => simp [evSs_cons, rho0, entOf, isiD, tyN, tyL, isiB, b1D, lenD, cmpD, eqOk, eqD, D.dep, isSg]
    | x :: y :: z :: w :: l, h =>
      have e : ¬ (((l.length : Int) + 1 + 1 + 1 + 1) = 3) := by omega
      simp [evSs_cons, rho0, entOf, isiD, tyN, tyL, isiB, b1D, lenD, cmpD, eqOk, eqD, D.dep, isSg, e]
  | _ => simp [evSs_cons, rho0, entOf, isiD, tyN, tyL, isiB, isSg]
end PG

namespace PG
open NV
theorem need_signs_eq (d : D) (h : okT d = true) : E_need_signs.F [d] = if isSg d then .ok (.non, []) else .exc "BadSigns" () := by
  rw [F_need_signs]
  unfold runF m_need_signs
  cases q : isSg d <;> simp [evSs_cons, rho0, entOf, is_signs_eq d h, q]
@[simp] theorem forLoop_nil (body : EvS) (tg : Tg) (ρ : Rho) : forLoop body tg [] ρ = .ok (.nx, ρ) := rfl
@[simp] theorem forLoop_cons (body : EvS) (tg : Tg) (d : D) (ds : List D) (ρ : Rho) : forLoop body tg (d :: ds) ρ = match setT tg d ρ with
    | none => .stuck
    | some ρ1 => (body ρ1).bind fun r => match r.1 with
      | .nx => forLoop body tg ds r.2
      | .ret v => .ok (.ret v, r.2) := rfl
@[simp] theorem unlockO_ok (ρ0 : Rho) (args : List ME) (f : Fl) (ρ : Rho) : unlockO ρ0 args (.ok (f, ρ)) = .ok (f, unlockE ρ0 args ρ) := rfl
abbrev sOpen : List Nat := [111, 112, 101, 110]
abbrev sClose : List Nat := [99, 108, 111, 115, 101]
abbrev sOn : List Nat := [111, 110]
def kindOf (a b c : List Nat) : D → List Nat
  | .str [x] => if x ∈ a then sOpen else if x ∈ b then sClose else if x ∈ c then sOn else []
  | _ => []
theorem kind_of_eq (a b c : List Nat) (d : D) (h : tyOk d = true) : E_kind_of.F [.tup [.str a, .str b, .str c], d] = .ok (.str (kindOf a b c d), []) := by
  rw [F_kind_of]
  unfold runF m_kind_of
  cases d with
  | obj _ _ => cases h
  | adr _ => cases h
  | scr _ => cases h
  | str s =>
    match s with
    | [] => simp [evSs_cons, rho0, entOf, isiD, tyN, tyL, isiB, b1D, lenD, cmpD, eqOk, eqD, D.dep, kindOf]
    | x :: y :: l =>
      have e : ((l.length : Int) + 1 + 1 == 1) = false := by rw [beq_eq_false_iff_ne]; omega
      simp [evSs_cons, rho0, entOf, isiD, tyN, tyL, isiB, b1D, lenD, cmpD, eqOk, eqD, D.dep, kindOf, e]
    | [x] =>
      by_cases ha : x ∈ a
      · simp [evSs_cons, evS_for, rho0, entOf, isiD, tyN, tyL, isiB, b1D, lenD, cmpD, eqOk, eqD, D.dep, kindOf, iterD, zipD, lockE, unlockE, inD, ha]
      · by_cases hb : x ∈ b
        · simp [evSs_cons, evS_for, rho0, entOf, isiD, tyN, tyL, isiB, b1D, lenD, cmpD, eqOk, eqD, D.dep, kindOf, iterD, zipD, lockE, unlockE, inD, ha, hb]
        · by_cases hc : x ∈ c
          · simp [evSs_cons, evS_for, rho0, entOf, isiD, tyN, tyL, isiB, b1D, lenD, cmpD, eqOk, eqD, D.dep, kindOf, iterD, zipD, lockE, unlockE, inD, ha, hb, hc]
          · simp [evSs_cons, evS_for, rho0, entOf, isiD, tyN, tyL, isiB, b1D, lenD, cmpD, eqOk, eqD, D.dep, kindOf, iterD, zipD, lockE, unlockE, inD, ha, hb, hc]
  | _ => simp [evSs_cons, rho0, entOf, isiD, tyN, tyL, isiB, kindOf]
end PG

namespace PG
open NV
theorem cell_at_eq (ns : List Int) (k : Nat) : E__law_cell_at.F [.scr ns, .int k] = .ok (.int (ns.getD k 0), []) := by
  rw [F__law_cell_at]
  unfold runF m__law_cell_at
  by_cases h : k < ns.length
  · have h1 : (k : Int) < (ns.length : Int) := by omega
    simp [evSs_cons, rho0, entOf, b1D, lenD, cmpD, h1, idxD, ixD, h, List.getD_eq_getElem?_getD]
  · have h1 : ¬ (k : Int) < (ns.length : Int) := by omega
    have h2 : ns[k]? = none := List.getElem?_eq_none (by omega)
    simp [evSs_cons, rho0, entOf, b1D, lenD, cmpD, h1, List.getD_eq_getElem?_getD, h2]
def mixed (c k : Int) : Int := (c * 48271 + 7919 * k) % 1000003
theorem mixed_eq (c k : Int) : E__law_mixed.F [.int c, .int k] = .ok (.int (mixed c k), []) := by
  rw [F__law_mixed]
  unfold runF m__law_mixed
  simp [evSs_cons, rho0, entOf, binD, mulD, addD, modD, mixed]
theorem ix_int (l : List Int) (i : Int) (h0 : 0 ≤ i) (h1 : i < l.length) : ixD (l.map D.int) i = some (.int (l.getD i.toNat 0)) := by
  unfold ixD
  have : i.toNat < l.length := by omega
  rw [if_pos h0, List.getElem?_map, List.getD_eq_getElem?_getD, List.getElem?_eq_getElem this]
  rfl
theorem ix_abc (i : Int) (h0 : 0 ≤ i) (h1 : i < 26) : ixD abc i = some (97 + i.toNat) := by
  obtain ⟨n, rfl⟩ := Int.eq_ofNat_of_zero_le h0
  have hn : n < 26 := by omega
  unfold ixD
  rw [if_pos h0]
  have : ∀ n < 26, abc[n]? = some (97 + n) := by decide
  exact this n hn
theorem mod_b (x m : Int) (h : 0 < m) : 0 ≤ x % m ∧ x % m < m := ⟨Int.emod_nonneg _ (by omega), Int.emod_lt_of_pos _ h⟩
/-- the letters of a cell -/
def stepOf (c : Int) : Int := 1 + 2 * (c / 26 % 5)
def rowOf (c : Int) (n : Nat) : List Nat := (List.range n).map fun k : Nat => 97 + ((c + stepOf c * k) % 26).toNat
theorem rowOf_let (c : Int) (n : Nat) : (rowOf c n).all isLet = true := by
  rw [List.all_eq_true]
  intro x hx
  obtain ⟨k, _, rfl⟩ := List.mem_map.mp hx
  have := mod_b (c + stepOf c * k) 26 (by omega)
  simp [isLet]
  omega
theorem allStr_map {α : Type} (f : α → List Nat) : ∀ l : List α, allStr (l.map fun x => D.str (f x)) = some (l.map f)
  | [] => rfl
  | x :: l => by
    show (allStr (l.map fun x => D.str (f x))).map (f x :: ·) = _
    rw [allStr_map f l]
    rfl
theorem joinL_nil_sing : ∀ l : List Nat, joinL [] (l.map fun x => [x]) = l
  | [] => rfl
  | [x] => rfl
  | x :: y :: l => by
    show [x] ++ [] ++ joinL [] ((y :: l).map fun x => [x]) = _
    rw [joinL_nil_sing (y :: l)]
    rfl
theorem sum_sing : ∀ l : List Nat, (l.map (List.length ∘ fun x : Nat => [x])).sum = l.length
  | [] => rfl
  | x :: l => by simp [sum_sing l]; omega
theorem rowOf_len (c : Int) (n : Nat) : (rowOf c n).length = n := by simp [rowOf]
def oneOf (c : Int) : Int := [1, 1, 2, 0].getD (c / 130 % 4).toNat 0
def otherOf (c : Int) : Int := oneOf c + [1, 2, 1, 1, 0].getD (c / 520 % 5).toNat 0
def sgA (c : Int) : List Nat := cutD (rowOf c 6) none (some (oneOf c))
def sgB (c : Int) : List Nat := cutD (rowOf c 6) (some (oneOf c)) (some (otherOf c))
def sgC (c : Int) : List Nat := cutD (rowOf c 6) (some (otherOf c)) (some (otherOf c + c / 2600 % 3))
def sgD (c : Int) : D := .tup [.str (sgA c), .str (sgB c), .str (sgC c)]
theorem signs_by_eq (c : Int) : E__law_signs_by.F [.int c] = .ok (sgD c, []) := by
  rw [F__law_signs_by]
  have e : ∀ (e3 e4 e5 e6 : Ent), compLoop (ev (.idx (.var 1) (.bin .mod (.bin .add (.var 0) (.bin .mul (.var 2) (.var 6))) (.cst (.int 26))))) (evIfs []) (.nm 6) [6] (rngD 0 6) [.im (.int c), .im (.str abc), .im (.int (stepOf c)), .un, .un, .un, .un] =
      .ok ((rowOf c 6).map fun x => D.str [x], [.im (.int c), .im (.str abc), .im (.int (stepOf c)), .un, .un, .un, .un]) := fun _ _ _ _ => by
    have hs : (stepOf c).natAbs < 2 ^ 64 := by
      have := mod_b (c / 26) 5 (by omega)
      unfold stepOf
      omega
    have h := compLoop_map (elt := ev (.idx (.var 1) (.bin .mod (.bin .add (.var 0) (.bin .mul (.var 2) (.var 6))) (.cst (.int 26))))) (ifs := evIfs []) (tg := .nm 6) (own := [6]) (ρ := [.im (.int c), .im (.str abc), .im (.int (stepOf c)), .un, .un, .un, .un])
      (f := fun d => match d with | .int k => .str [97 + ((c + stepOf c * k) % 26).toNat] | _ => .non) (items := rngD 0 6) (fun d hd => by
        obtain ⟨k, _, rfl⟩ := List.mem_map.mp hd
        have hm := mod_b (c + stepOf c * ((0 : Int) + k)) 26 (by omega)
        have hi := ix_abc _ hm.1 hm.2
        simp only [Int.zero_add] at hi
        simp [compStep, binD, mulD, addD, modD, hs, idxD, hi, wiped])
    rw [h]
    unfold rngD rowOf
    rw [List.map_map, List.map_map]
    simp [Function.comp_def]
  have h1 := mod_b (c / 130) 4 (by omega)
  have h2 := mod_b (c / 520) 5 (by omega)
  have i1 : ixD [D.int 1, D.int 1, D.int 2, D.int 0] (c / 130 % 4) = some (.int (oneOf c)) := ix_int [1, 1, 2, 0] _ h1.1 h1.2
  have i2 : ixD [D.int 1, D.int 2, D.int 1, D.int 1, D.int 0] (c / 520 % 5) = some (.int ([1, 2, 1, 1, 0].getD (c / 520 % 5).toNat 0)) := ix_int [1, 2, 1, 1, 0] _ h2.1 h2.2
  have hl : (rngD 0 6).length ≤ szl := by unfold rngD szl; rw [List.length_map, List.length_range]; exact Nat.le_of_ble_eq_true rfl
  have hj : ((rowOf c 6).map fun x => ([x] : List Nat)) = (rowOf c 6).map fun x => [x] := rfl
  have as := allStr_map (fun x : Nat => [x]) (rowOf c 6)
  have jl := joinL_nil_sing (rowOf c 6)
  have s1 : evS 0 (.asg (.nm 1) (.cst (.str [97, 98, 99, 100, 101, 102, 103, 104, 105, 106, 107, 108, 109, 110, 111, 112, 113, 114, 115, 116, 117, 118, 119, 120, 121, 122]))) [.im (.int c), .un, .un, .un, .un, .un, .un] = .ok (.nx, [.im (.int c), .im (.str abc), .un, .un, .un, .un, .un]) := rfl
  have s2 : evS 0 (.asg (.nm 2) (.bin .add (.cst (.int 1)) (.bin .mul (.cst (.int 2)) (.bin .mod (.bin .div (.var 0) (.cst (.int 26))) (.cst (.int 5)))))) [.im (.int c), .im (.str abc), .un, .un, .un, .un, .un] = .ok (.nx, [.im (.int c), .im (.str abc), .im (.int (stepOf c)), .un, .un, .un, .un]) := by
    simp [binD, addD, mulD, divD, modD, stepOf]
  have s3 : evS 0 (.asg (.nm 3) (.join (.cst (.str [])) (.comp (.idx (.var 1) (.bin .mod (.bin .add (.var 0) (.bin .mul (.var 2) (.var 6))) (.cst (.int 26)))) (.nm 6) .rng1 [(.cst (.int 6))] [] [6]))) [.im (.int c), .im (.str abc), .im (.int (stepOf c)), .un, .un, .un, .un] = .ok (.nx, [.im (.int c), .im (.str abc), .im (.int (stepOf c)), .im (.str (rowOf c 6)), .un, .un, .un]) := by
    have e'' := e .un .un .un .un
    have hr : iterD .rng1 [.int 6] = some (rngD 0 6) := rfl
    have hle : (List.map (List.length ∘ fun x => [x]) (rowOf c 6)).sum ≤ 16777216 := by rw [sum_sing, rowOf_len]; omega
    simp [ev_comp, lockE, unlockE, hl, e'', as, jl, hr, hle]
  have s4 : evS 0 (.asg (.nm 4) (.idx (.lst [(.cst (.int 1)), (.cst (.int 1)), (.cst (.int 2)), (.cst (.int 0))]) (.bin .mod (.bin .div (.var 0) (.cst (.int 130))) (.cst (.int 4))))) [.im (.int c), .im (.str abc), .im (.int (stepOf c)), .im (.str (rowOf c 6)), .un, .un, .un] = .ok (.nx, [.im (.int c), .im (.str abc), .im (.int (stepOf c)), .im (.str (rowOf c 6)), .im (.int (oneOf c)), .un, .un]) := by
    simp [binD, divD, modD, idxD, i1]
  have s5 : evS 0 (.asg (.nm 5) (.bin .add (.var 4) (.idx (.lst [(.cst (.int 1)), (.cst (.int 2)), (.cst (.int 1)), (.cst (.int 1)), (.cst (.int 0))]) (.bin .mod (.bin .div (.var 0) (.cst (.int 520))) (.cst (.int 5)))))) [.im (.int c), .im (.str abc), .im (.int (stepOf c)), .im (.str (rowOf c 6)), .im (.int (oneOf c)), .un, .un] = .ok (.nx, [.im (.int c), .im (.str abc), .im (.int (stepOf c)), .im (.str (rowOf c 6)), .im (.int (oneOf c)), .im (.int (otherOf c)), .un]) := by
    simp only [evS_asg, ev_bin, ev_idx, ev_lst, evs_cons, evs_nil, ev_cst, pre_var, pre_idx, pre_lst, pre_bin, pre_cst, fin_idx, fin_lst, fin_bin, fin_cst, fin_var, peek_eq, Out.bind_ok, binD, divD, modD, idxD]
    simp [divD, modD, addD, i2, otherOf]
  have hr0 : rho0 [.im] [.int c] 7 = [.im (.int c), .un, .un, .un, .un, .un, .un] := rfl
  refine run_ret (ρ' := [.im (.int c), .im (.str abc), .im (.int (stepOf c)), .im (.str (rowOf c 6)), .im (.int (oneOf c)), .im (.int (otherOf c)), .un]) ?_ rfl
  unfold m__law_signs_by
  rw [hr0, evSs_step s1, evSs_step s2, evSs_step s3, evSs_step s4, evSs_step s5]
  simp [evSs_cons, slD, binD, addD, divD, modD, sgD, sgA, sgB, sgC]
theorem cut_sub {α : Type} (l : List α) (lo hi : Option Int) : ∀ x ∈ cutD l lo hi, x ∈ l := fun x hx => by
  unfold cutD at hx
  exact List.mem_of_mem_drop (List.mem_of_mem_take hx)
theorem cut_len {α : Type} (l : List α) (lo hi : Option Int) : (cutD l lo hi).length ≤ l.length := by
  unfold cutD
  rw [List.length_take, List.length_drop]
  omega
theorem let_of {l m : List Nat} (h : m.all isLet = true) (hs : ∀ x ∈ l, x ∈ m) : ∀ x ∈ l, isLet x = true := fun x hx => List.all_eq_true.mp h x (hs x hx)
theorem sgA_let (c : Int) : ∀ x ∈ sgA c, isLet x = true := let_of (rowOf_let c 6) (cut_sub _ _ _)
theorem sgB_let (c : Int) : ∀ x ∈ sgB c, isLet x = true := let_of (rowOf_let c 6) (cut_sub _ _ _)
theorem sgC_let (c : Int) : ∀ x ∈ sgC c, isLet x = true := let_of (rowOf_let c 6) (cut_sub _ _ _)
theorem sgA_len (c : Int) : (sgA c).length ≤ 6 := by have := cut_len (rowOf c 6) none (some (oneOf c)); rw [rowOf_len] at this; exact this
theorem sgB_len (c : Int) : (sgB c).length ≤ 6 := by have := cut_len (rowOf c 6) (some (oneOf c)) (some (otherOf c)); rw [rowOf_len] at this; exact this
theorem sgC_len (c : Int) : (sgC c).length ≤ 6 := by have := cut_len (rowOf c 6) (some (otherOf c)) (some (otherOf c + c / 2600 % 3)); rw [rowOf_len] at this; exact this
end PG

namespace PG
open NV
/-! ### signs -/
abbrev Sg := List Nat × List Nat × List Nat
def sgT (S : Sg) : D := .tup [.str S.1, .str S.2.1, .str S.2.2]
structure SgOk (S : Sg) : Prop where
  la : S.1.length ≤ 4
  lb : S.2.1.length ≤ 4
  lc : S.2.2.length ≤ 4
  le : ∀ x ∈ S.1 ++ S.2.1 ++ S.2.2, isLet x = true
  nd : (S.1 ++ S.2.1 ++ S.2.2).Nodup
theorem areL_of {s : List Nat} (h1 : s.length ≤ 4) (h2 : ∀ x ∈ s, isLet x = true) : areL (.str s) = true := by
  show (decide (s.length ≤ 4) && s.all isLet) = true
  rw [Bool.and_eq_true, decide_eq_true_eq, List.all_eq_true]
  exact ⟨h1, h2⟩
theorem SgOk.sg {S : Sg} (h : SgOk S) : isSg (sgT S) = true := by
  have e : isSg (sgT S) = (areL (.str S.1) && areL (.str S.2.1) && areL (.str S.2.2) && decide ((S.1 ++ S.2.1 ++ S.2.2).Nodup)) := rfl
  rw [e, areL_of h.la fun x hx => h.le x (by simp [hx]), areL_of h.lb fun x hx => h.le x (by simp [hx]), areL_of h.lc fun x hx => h.le x (by simp [hx])]
  simpa using h.nd
/-! ### rooms -/
def isRoom (d : D) (n : Int) : Bool := match d with
  | .int i => decide (0 ≤ i) && decide (i < n)
  | _ => false
theorem is_room_eq (d : D) (n : Int) (h : tyOk d = true) : E_is_room.F [d, .int n] = .ok (.bl (isRoom d n), []) := by
  rw [F_is_room]
  unfold runF m_is_room
  cases d with
  | obj _ _ => cases h
  | adr _ => cases h
  | scr _ => cases h
  | int i =>
    by_cases h1 : 0 ≤ i <;> simp [evSs_cons, evS_for, ev_comp, rho0, entOf, isiD, tyN, tyL, isiB, b1D, lenD, cmpD, eqOk, eqD, eqL, D.dep, D.depL, iterD, itemsD, lockE, unlockE, idxD, slD, binD, addD, subD, mulD, divD, modD, negD, isRoom, h1]
  | _ => simp [evSs_cons, evS_for, ev_comp, rho0, entOf, isiD, tyN, tyL, isiB, b1D, lenD, cmpD, eqOk, eqD, eqL, D.dep, D.depL, iterD, itemsD, lockE, unlockE, idxD, slD, binD, addD, subD, mulD, divD, modD, negD, isRoom]
theorem lenset_ints (l : List Int) (h : l.length ≤ 4000) : b1D .lenset (.lst (l.map D.int)) = some (.int (metN l)) := by
  have e : ∀ l : List Int, allInt (l.map D.int) = some l := fun l => by
    induction l with
    | nil => rfl
    | cons x l ih =>
      show (allInt (l.map D.int)).map (x :: ·) = _
      rw [ih]
      rfl
  show (match allInt (l.map D.int) with
    | some is => if is.length ≤ 4000 then some (D.int (metN is)) else none
    | none => none) = _
  rw [e]
  simp [h]
theorem are_rooms_eq (l : List Int) (n : Int) (hn : ∀ x ∈ l, 0 ≤ x ∧ x < n) (hl : l.length ≤ 4000) : E_are_rooms.F [.lst (l.map D.int), .int n] = .ok (.bl (decide l.Nodup), []) := by
  rw [F_are_rooms]
  unfold runF m_are_rooms
  have e := compLoop_map (elt := ev (.call E_is_room [(.var 2), (.var 1)])) (ifs := evIfs []) (tg := .nm 2) (own := [2]) (ρ := [.im (.lst (l.map D.int)), .im (.int n), .un]) (f := fun d => .bl true) (items := l.map D.int) (fun d hd => by
    obtain ⟨x, hx, rfl⟩ := List.mem_map.mp hd
    have := hn x hx
    have r := is_room_eq (.int x) n rfl
    have e1 : isRoom (.int x) n = true := by simp [isRoom, this.1, this.2]
    rw [e1] at r
    simp [compStep, r, wiped])
  have hz : l.length ≤ szl := by unfold szl; omega
  have e2 : (allBl (l.map fun _ => D.bl true)) = some (l.map fun _ => true) := allBl_map (fun _ => true) l
  have e3 : ((metN l : Int) == (l.length : Int)) = decide l.Nodup := by
    rw [Bool.eq_iff_iff, decide_eq_true_eq, ← metN_nodup]
    simp
    omega
  have e4 : (!l.all fun _ => true) = false := by simp
  have ls := lenset_ints l hl
  have s1 : evS 0 (.ite (.or [(.not (.isi (.var 0) "list")), (.not (.b1 .all (.comp (.call E_is_room [(.var 2), (.var 1)]) (.nm 2) .seq [(.var 0)] [] [2])))]) [.ret (.cst (.bl false))] []) [.im (.lst (l.map D.int)), .im (.int n), .un] = .ok (.nx, [.im (.lst (l.map D.int)), .im (.int n), .un]) := by
    simp [evSs_cons, evS_for, ev_comp, isiD, tyN, tyL, isiB, iterD, itemsD, lockE, unlockE, e, hz, b1D, e2, Function.comp_def, e4]
  have s2 : evS 0 (.ret (.cmp .eq (.b1 .lenset (.var 0)) (.b1 .len (.var 0)))) [.im (.lst (l.map D.int)), .im (.int n), .un] = .ok (.ret (.bl (decide l.Nodup)), [.im (.lst (l.map D.int)), .im (.int n), .un]) := by
    have l2 : b1D .len (.lst (l.map D.int)) = some (.int l.length) := by simp [b1D, lenD]
    simp [ls, l2, cmpD, eqOk, D.dep, eqD, e3]
  have hr : rho0 [.im, .im] [.lst (l.map D.int), .int n] 3 = [.im (.lst (l.map D.int)), .im (.int n), .un] := rfl
  rw [hr, evSs_step s1, evSs_done s2]
  simp
/-! ### ways -/
inductive Wy where
  | on (r s q : Nat) | op (r s q k : Nat) | cl (r k s q : Nat)
  deriving DecidableEq
def Wy.d : Wy → D
  | .on r s q => .tup [.str sOn, .int r, .str [s], .int q]
  | .op r s q k => .tup [.str sOpen, .int r, .str [s], .int q, .int k]
  | .cl r k s q => .tup [.str sClose, .int r, .int k, .str [s], .int q]
theorem Wy.d_inj : ∀ a b : Wy, a.d = b.d → a = b := by
  intro a b h
  cases a <;> cases b <;> simp [Wy.d] at h <;> simp_all <;> omega
def WyOk (S : Sg) (n : Nat) : Wy → Prop
  | .on r s q => r < n ∧ s ∈ S.2.2 ∧ q < n
  | .op r s q k => r < n ∧ s ∈ S.1 ∧ q < n ∧ k < n
  | .cl r k s q => r < n ∧ k < n ∧ s ∈ S.2.1 ∧ q < n
theorem nd3 {a b c : List Nat} (h : (a ++ b ++ c).Nodup) : (∀ x ∈ b, x ∉ a) ∧ (∀ x ∈ c, x ∉ a ∧ x ∉ b) := by
  rw [List.nodup_append, List.nodup_append] at h
  refine ⟨fun x hb ha => h.1.2.2 x ha x hb rfl, fun x hc => ⟨fun ha => h.2.2 x (by simp [ha]) x hc rfl, fun hb => h.2.2 x (by simp [hb]) x hc rfl⟩⟩
theorem is_way_eq {S : Sg} (hS : SgOk S) (n : Nat) (w : Wy) (hw : WyOk S n w) : E_is_way.F [w.d, sgT S, .int n] = .ok (.bl true, []) := by
  obtain ⟨n1, n2⟩ := nd3 hS.nd
  rw [F_is_way]
  unfold runF m_is_way
  have room : ∀ r : Nat, r < n → E_is_room.F [.int r, .int n] = .ok (.bl true, []) := fun r hr => by
    rw [is_room_eq _ _ rfl]
    have : isRoom (.int r) n = true := by simp [isRoom]; omega
    rw [this]
  cases w with
  | on r s q =>
    obtain ⟨h1, h2, h3⟩ := hw
    have hk : kindOf S.1 S.2.1 S.2.2 (.str [s]) = sOn := by simp [kindOf, n2 s h2, h2]
    have k := kind_of_eq S.1 S.2.1 S.2.2 (.str [s]) rfl
    rw [hk] at k
    have sl1 : cutD [D.str sOn, D.int r, D.str [s], D.int q] (some 1) (some 2) = [D.int r] := rfl
    have sl2 : cutD [D.str sOn, D.int r, D.str [s], D.int q] (some 3) none = [D.int q] := rfl
    simp [evSs_cons, evS_for, ev_comp, rho0, entOf, isiD, tyN, tyL, isiB, b1D, lenD, cmpD, eqOk, eqD, eqL, D.dep, D.depL, iterD, itemsD, lockE, unlockE, idxD, slD, binD, addD, subD, mulD, divD, modD, negD, Wy.d, sgT, k, szl, sl1, sl2, compLoop, compStep, room r h1, room q h3, wiped, allBl, Out.bind]
  | op r s q k =>
    obtain ⟨h1, h2, h3, h4⟩ := hw
    have hk : kindOf S.1 S.2.1 S.2.2 (.str [s]) = sOpen := by simp [kindOf, h2]
    have ko := kind_of_eq S.1 S.2.1 S.2.2 (.str [s]) rfl
    rw [hk] at ko
    have sl1 : cutD [D.str sOpen, D.int r, D.str [s], D.int q, D.int k] (some 1) (some 2) = [D.int r] := rfl
    have sl2 : cutD [D.str sOpen, D.int r, D.str [s], D.int q, D.int k] (some 3) none = [D.int q, D.int k] := rfl
    simp [evSs_cons, evS_for, ev_comp, rho0, entOf, isiD, tyN, tyL, isiB, b1D, lenD, cmpD, eqOk, eqD, eqL, D.dep, D.depL, iterD, itemsD, lockE, unlockE, idxD, slD, binD, addD, subD, mulD, divD, modD, negD, Wy.d, sgT, ko, szl, sl1, sl2, compLoop, compStep, room r h1, room q h3, room k h4, wiped, allBl, Out.bind]
  | cl r k s q =>
    obtain ⟨h1, h2, h3, h4⟩ := hw
    have hk : kindOf S.1 S.2.1 S.2.2 (.str [s]) = sClose := by simp [kindOf, n1 s h3, h3]
    have ko := kind_of_eq S.1 S.2.1 S.2.2 (.str [s]) rfl
    rw [hk] at ko
    have sl1 : cutD [D.str sClose, D.int r, D.int k, D.str [s], D.int q] (some 1) (some 3) = [D.int r, D.int k] := rfl
    have sl2 : cutD [D.str sClose, D.int r, D.int k, D.str [s], D.int q] (some 4) none = [D.int q] := rfl
    simp [evSs_cons, evS_for, ev_comp, rho0, entOf, isiD, tyN, tyL, isiB, b1D, lenD, cmpD, eqOk, eqD, eqL, D.dep, D.depL, iterD, itemsD, lockE, unlockE, idxD, slD, binD, addD, subD, mulD, divD, modD, negD, Wy.d, sgT, ko, szl, sl1, sl2, compLoop, compStep, room r h1, room q h4, room k h2, wiped, allBl, Out.bind]
end PG

namespace PG
open NV PySem.W
/-! ### machines -/
def dn (l : List Nat) : List D := l.map fun x : Nat => D.int x
theorem dn_int (l : List Nat) : (l.map fun x : Nat => (x : Int)).map D.int = dn l := by rw [List.map_map]; rfl
def metD (ws : List Wy) : List D := (ws.map Wy.d).foldl metL []
def mach (S : Sg) (n : Nat) (st en : List Nat) (ws : List Wy) : D := .obj "Machine" [sgT S, .int n, .lst (sortD (dn st)), .lst (sortD (dn en)), .lst (sortD (metD ws))]
theorem putAt_met (k : D) : ∀ ks : List D, putAt k (.bl true) ks (List.replicate ks.length (.bl true)) = (metL ks k, List.replicate (metL ks k).length (.bl true))
  | [] => rfl
  | x :: ks => by
    show (if x = k then _ else _) = _
    by_cases h : x = k
    · subst h
      rw [if_pos rfl]
      have : metL (x :: ks) x = x :: ks := by unfold metL; rw [if_pos List.mem_cons_self]
      rw [this]
      rfl
    · rw [if_neg h]
      have ih := putAt_met k ks
      have e : metL (x :: ks) k = x :: metL ks k := by
        unfold metL
        by_cases hk : k ∈ ks
        · rw [if_pos hk, if_pos (List.mem_cons_of_mem _ hk)]
        · have hn : k ∉ x :: ks := fun z => (List.mem_cons.mp z).elim (fun w => h w.symm) hk
          rw [if_neg hk, if_neg hn]
          rfl
      rw [e]
      show ((x :: (putAt k (.bl true) ks (List.replicate ks.length (.bl true))).1, D.bl true :: (putAt k (.bl true) ks (List.replicate ks.length (.bl true))).2) : List D × List D) = _
      rw [ih]
      rfl
theorem rowOk_alike : ∀ xs ys : List PySem.PyData, alikeAll xs ys = true → rowOkP xs ys = true
  | [], _, _ => by unfold rowOkP; rfl
  | x :: xs, [], _ => by unfold rowOkP; rfl
  | x :: xs, y :: ys, h => by
    obtain ⟨h1, h2⟩ := alike_all_cons h
    unfold rowOkP
    rw [h1, rowOk_alike xs ys h2]
    simp
theorem Wy.tkey (w : Wy) : w.d.tkey = true := by
  cases w <;> simp [Wy.d, D.tkey, D.isKeyL, D.isKey, D.depL, D.dep]
theorem Wy.pairOk (w v : Wy) : pairOkP (py w.d) (py v.d) = true := by
  cases w <;> cases v <;> simp [Wy.d, py, pyL, pairOkP, tyP, rowOkP, alike, PySem.PyData.eqv]
theorem sortOk_ways {l : List D} (h : ∀ d ∈ l, ∃ w : Wy, d = w.d) : sortOk l = true := by
  unfold sortOk
  rw [Bool.and_eq_true, List.all_eq_true, List.all_eq_true]
  refine ⟨fun d hd => ?_, fun d hd => ?_⟩
  · obtain ⟨w, rfl⟩ := h d hd
    exact w.tkey
  · rw [List.all_eq_true]
    intro e he
    obtain ⟨w, rfl⟩ := h d hd
    obtain ⟨v, rfl⟩ := h e he
    exact w.pairOk v
theorem metD_mem {ws : List Wy} {d : D} : d ∈ metD ws ↔ ∃ w ∈ ws, w.d = d := by
  unfold metD
  rw [met_mem]
  simp
theorem allInt_dn (l : List Nat) : (allInt (dn l)).isSome = true := by
  unfold dn
  induction l with
  | nil => rfl
  | cons x l ih =>
    show ((allInt (l.map fun x : Nat => D.int x)).map ((x : Int) :: ·)).isSome = true
    cases q : allInt (l.map fun x : Nat => D.int x) with
    | none => rw [q] at ih; cases ih
    | some is => rfl
theorem sorted_dn (l : List Nat) : sortedD (.lst (dn l)) = some (.lst (sortD (dn l))) := by
  show (if (allInt (dn l)).isSome || sortOk (dn l) then some (D.lst (sortD (dn l))) else none) = _
  rw [allInt_dn]
  rfl
theorem sorted_keys (ws : List Wy) (vs : List D) : sortedD (.dic (metD ws) vs) = some (.lst (sortD (metD ws))) := by
  show (if sortOk (metD ws) then some (D.lst (sortD (metD ws))) else none) = _
  rw [sortOk_ways fun d hd => by
    obtain ⟨w, _, e⟩ := metD_mem.mp hd
    exact ⟨w, e.symm⟩]
  rfl
structure MOk (S : Sg) (n : Nat) (st en : List Nat) (ws : List Wy) : Prop where
  sg : SgOk S
  n1 : 1 ≤ n
  n40 : n ≤ 40
  stn : st.Nodup
  enn : en.Nodup
  lw : ws.length ≤ 4000
  st : ∀ x ∈ st, x < n
  en : ∀ x ∈ en, x < n
  ws : ∀ w ∈ ws, WyOk S n w
theorem len_rooms {n : Nat} {l : List Nat} (h : ∀ x ∈ l, x < n) (nd : l.Nodup) : l.length ≤ n := by
  have := List.Nodup.length_le_of_subset nd (l₂ := List.range n) fun x hx => List.mem_range.mpr (h x hx)
  rwa [List.length_range] at this
theorem are_rooms_dn {n : Nat} {l : List Nat} (h : ∀ x ∈ l, x < n) (nd : l.Nodup) (hn : n ≤ 40) : E_are_rooms.F [.lst (dn l), .int n] = .ok (.bl true, []) := by
  have hl := len_rooms h nd
  have := are_rooms_eq (l.map fun x : Nat => (x : Int)) n (fun x hx => by
    obtain ⟨y, hy, rfl⟩ := List.mem_map.mp hx
    have := h y hy
    omega) (by rw [List.length_map]; omega)
  rw [dn_int] at this
  rw [this]
  have nd2 : (l.map fun x : Nat => (x : Int)).Nodup := by
    rw [List.Nodup, List.pairwise_map]
    exact nd.imp fun {a b} h z => h (by omega)
  simp [nd2]
def wLoop : List MS := [.ite (.not (.call E_is_way [(.var 7), (.var 1), (.var 2)])) [.rai "BadMachine"] [], .setK 6 (.var 7) (.cst (.bl true))]
theorem init_eq {S : Sg} {n : Nat} {st en : List Nat} {ws : List Wy} (h : MOk S n st en ws) : E_Machine___init__.F [.obj "Machine" [], sgT S, .int n, .lst (dn st), .lst (dn en), .lst (ws.map Wy.d)] = .ok (.non, [mach S n st en ws]) := by
  rw [F_Machine___init__]
  have hsg : okT (sgT S) = true := rfl
  have ns := need_signs_eq (sgT S) hsg
  rw [h.sg.sg, if_pos rfl] at ns
  have n1 := h.n1
  have n40 := h.n40
  have ir := is_room_eq (.int n) 41 rfl
  have e41 : isRoom (.int n) 41 = true := by simp [isRoom]; omega
  rw [e41] at ir
  have ast := are_rooms_dn h.st h.stn n40
  have aen := are_rooms_dn h.en h.enn n40
  have hlt : ¬ (n : Int) < 1 := by omega
  have lw := h.lw
  have h4 : ¬ (4000 < (ws.length : Int)) := by omega
  -- the loop
  have lp := for_loopI (body := evSs 0 wLoop) (tg := .nm 7) (st := fun i (s : List D) ρ => ∃ e7, isUI e7 = true ∧ s.length ≤ i ∧ ρ = [.io (.obj "Machine" []), .im (sgT S), .im (.int n), .im (.lst (dn st)), .im (.lst (dn en)), .im (.lst (ws.map Wy.d)), .ow (.dic s (List.replicate s.length (.bl true))), e7]) (g := fun s d => .inl (metL s d)) 4000
    (items := ws.map Wy.d) (i := 0) (s := []) (ρ := [.io (.obj "Machine" []), .im (sgT S), .im (.int n), .im (.lst (dn st)), .im (.lst (dn en)), .im (.lst (ws.map Wy.d)), .ow (.dic [] []), .un]) (by rw [List.length_map]; omega) ⟨.un, rfl, Nat.le_refl _, rfl⟩ (fun i s ρ d hd hi ⟨e7, h7, hs, e⟩ => by
      subst e
      obtain ⟨w, hw, rfl⟩ := List.mem_map.mp hd
      have iw := is_way_eq h.sg n w (h.ws w hw)
      refine ⟨[.io (.obj "Machine" []), .im (sgT S), .im (.int n), .im (.lst (dn st)), .im (.lst (dn en)), .im (.lst (ws.map Wy.d)), .ow (.dic s (List.replicate s.length (.bl true))), .im w.d], ?_, _, ?_, .im w.d, rfl, ?_, rfl⟩
      · rcases isUI_or h7 with rfl | ⟨d, rfl⟩ <;> rfl
      · have hz : s.length < 16777215 := by omega
        simp [wLoop, evSs_cons, iw, setKW, w.tkey, hz, putAt_met]
      · unfold metL
        split
        · omega
        · simp; omega)
  have lE : ∀ (l s : List D), loopE (fun (s : List D) d => (.inl (metL s d) : List D ⊕ D)) s l = .inl (l.foldl metL s) := by
    intro l
    induction l with
    | nil => intro s; rfl
    | cons d l ih => intro s; unfold loopE; exact ih _
  rw [lE] at lp
  obtain ⟨ρ', lp1, e7, h7, hs7, rfl⟩ := lp
  unfold runF m_Machine___init__
  unfold wLoop at lp1
  have sd1 := sorted_dn st
  have sd2 := sorted_dn en
  have sd3 := sorted_keys ws (List.replicate (metD ws).length (.bl true))
  have fl : (flds "Machine").length = 5 := rfl
  have hm : metD ws = (ws.map Wy.d).foldl metL [] := rfl
  unfold mach
  rw [hm] at sd3 ⊢
  simp [evSs_cons, evS_for, ev_comp, rho0, entOf, isiD, tyN, tyL, isiB, b1D, lenD, cmpD, eqOk, eqD, eqL, D.dep, D.depL, iterD, itemsD, lockE, unlockE, idxD, slD, binD, addD, subD, mulD, divD, modD, negD, ns, ir, ast, aen, hlt, h4, lp1, unlockO, one, sd1, sd2, sd3, fl]
end PG

namespace PG
open NV PySem.W
/-! ### what a machine tells -/
section
variable (S : Sg) (n : Nat) (st en : List Nat) (ws : List Wy)
theorem m_signs_eq : E_Machine_signs.F [mach S n st en ws] = .ok (sgT S, []) := by
  rw [F_Machine_signs]
  unfold runF m_Machine_signs
  simp [evSs_cons, evS_for, ev_comp, rho0, entOf, isiD, tyN, tyL, isiB, b1D, lenD, cmpD, eqOk, eqD, eqL, D.dep, D.depL, iterD, itemsD, lockE, unlockE, idxD, slD, binD, addD, subD, mulD, divD, modD, negD, mach]
theorem m_rooms_eq : E_Machine_rooms.F [mach S n st en ws] = .ok (.int n, []) := by
  rw [F_Machine_rooms]
  unfold runF m_Machine_rooms
  simp [evSs_cons, evS_for, ev_comp, rho0, entOf, isiD, tyN, tyL, isiB, b1D, lenD, cmpD, eqOk, eqD, eqL, D.dep, D.depL, iterD, itemsD, lockE, unlockE, idxD, slD, binD, addD, subD, mulD, divD, modD, negD, mach]
theorem m_starts_eq : E_Machine_starts.F [mach S n st en ws] = .ok (.lst (sortD (dn st)), []) := by
  rw [F_Machine_starts]
  unfold runF m_Machine_starts
  simp [evSs_cons, evS_for, ev_comp, rho0, entOf, isiD, tyN, tyL, isiB, b1D, lenD, cmpD, eqOk, eqD, eqL, D.dep, D.depL, iterD, itemsD, lockE, unlockE, idxD, slD, binD, addD, subD, mulD, divD, modD, negD, mach]
theorem m_ends_eq : E_Machine_ends.F [mach S n st en ws] = .ok (.lst (sortD (dn en)), []) := by
  rw [F_Machine_ends]
  unfold runF m_Machine_ends
  simp [evSs_cons, evS_for, ev_comp, rho0, entOf, isiD, tyN, tyL, isiB, b1D, lenD, cmpD, eqOk, eqD, eqL, D.dep, D.depL, iterD, itemsD, lockE, unlockE, idxD, slD, binD, addD, subD, mulD, divD, modD, negD, mach]
theorem m_ways_eq : E_Machine_ways.F [mach S n st en ws] = .ok (.lst (sortD (metD ws)), []) := by
  rw [F_Machine_ways]
  unfold runF m_Machine_ways
  simp [evSs_cons, evS_for, ev_comp, rho0, entOf, isiD, tyN, tyL, isiB, b1D, lenD, cmpD, eqOk, eqD, eqL, D.dep, D.depL, iterD, itemsD, lockE, unlockE, idxD, slD, binD, addD, subD, mulD, divD, modD, negD, mach]
end
theorem perm_map_inv {α β : Type} {f : α → β} {x l' : List β} (p : x.Perm l') : ∀ l : List α, x = l.map f → ∃ m, l' = m.map f ∧ l.Perm m := by
  induction p with
  | nil => intro l e; exact ⟨l, e, .refl _⟩
  | cons a p ih =>
    intro l e
    cases l with
    | nil => cases e
    | cons b l =>
      rw [List.map_cons, List.cons.injEq] at e
      obtain ⟨m, h1, h2⟩ := ih l e.2
      exact ⟨b :: m, by rw [List.map_cons, e.1, h1], h2.cons b⟩
  | swap a b p =>
    intro l e
    match l, e with
    | c :: d :: l, e =>
      rw [List.map_cons, List.map_cons, List.cons.injEq, List.cons.injEq] at e
      exact ⟨d :: c :: l, by rw [List.map_cons, List.map_cons, e.1, e.2.1, e.2.2], .swap _ _ _⟩
  | trans p q ih1 ih2 =>
    intro l e
    obtain ⟨m, h1, h2⟩ := ih1 l e
    obtain ⟨m2, h3, h4⟩ := ih2 m h1
    exact ⟨m2, h3, h2.trans h4⟩
/-- the ways, each once -/
def wsN (ws : List Wy) : List Wy := ws.foldl metL []
theorem metD_map (ws : List Wy) : metD ws = (wsN ws).map Wy.d := by
  have := met_map Wy.d Wy.d_inj ws []
  exact this
theorem rows_ex (ws : List Wy) : ∃ vs : List Wy, sortD (metD ws) = vs.map Wy.d ∧ vs.Perm (wsN ws) := by
  obtain ⟨m, h1, h2⟩ := perm_map_inv (sortD_perm (metD ws)).symm (wsN ws) (metD_map ws)
  exact ⟨m, h1, h2.symm⟩
theorem wsN_mem {ws : List Wy} {w : Wy} : w ∈ wsN ws ↔ w ∈ ws := by
  unfold wsN
  rw [met_mem]
  simp
theorem wsN_nodup (ws : List Wy) : (wsN ws).Nodup := by
  have key : ∀ (l acc : List Wy), acc.Nodup → (l.foldl metL acc).Nodup := by
    intro l
    induction l with
    | nil => intro acc h; exact h
    | cons x l ih =>
      intro acc h
      rw [List.foldl_cons]
      refine ih _ ?_
      unfold metL
      by_cases hx : x ∈ acc
      · rw [if_pos hx]; exact h
      · rw [if_neg hx, List.nodup_append]
        exact ⟨h, by simp, fun a h1 b h2 => by simp at h2; subst h2; exact fun z => hx (z ▸ h1)⟩
  exact key ws [] List.nodup_nil
theorem wsN_len (ws : List Wy) : (wsN ws).length ≤ ws.length := by
  have := met_le ws []
  unfold wsN
  simpa using this
/-! ### the index -/
def kOn (r s : Nat) : D := .tup [.str sOn, .int r, .str [s]]
def kOp (r s : Nat) : D := .tup [.str sOpen, .int r, .str [s]]
def kCl (r k s : Nat) : D := .tup [.str sClose, .int r, .int k, .str [s]]
def keyW : Wy → D
  | .on r s _ => kOn r s
  | .op r s _ _ => kOp r s
  | .cl r k s _ => kCl r k s
def lastW : Wy → D
  | .on _ _ q => .int q
  | .op _ _ q k => .tup [.int q, .int k]
  | .cl _ _ _ q => .int q
def rowsG (acc : List D × List (List D)) (l : List Wy) : List D × List (List D) := l.foldl (fun acc w => addRow (keyW w) (lastW w) acc.1 acc.2) acc
def rowsOf (l : List Wy) : List D × List (List D) := rowsG ([], []) l
def indexD (l : List Wy) : D := .dic (rowsOf l).1 ((rowsOf l).2.map D.lst)
def rowAt (k : D) : List D → List (List D) → List D
  | x :: ks, v :: vs => if x = k then v else rowAt k ks vs
  | _, _ => []
theorem addRow_len (k e : D) : ∀ (ks : List D) (vs : List (List D)), ks.length = vs.length → (addRow k e ks vs).1.length = (addRow k e ks vs).2.length ∧ (addRow k e ks vs).1.length ≤ ks.length + 1
  | [], [], _ => by simp [addRow]
  | x :: ks, v :: vs, h => by
    have h : ks.length = vs.length := by simpa using h
    show ((if x = k then _ else _ : List D × List (List D)).1.length = _) ∧ _
    have ih := addRow_len k e ks vs h
    have e1 : addRow k e (x :: ks) (v :: vs) = if x = k then (x :: ks, (v ++ [e]) :: vs) else (x :: (addRow k e ks vs).1, v :: (addRow k e ks vs).2) := rfl
    rw [e1]
    split
    · simp [h]
    · simp [ih.1]; omega
  | [], _ :: _, h => by simp at h
  | _ :: _, [], h => by simp at h
theorem addRow_mem (k e : D) : ∀ (ks : List D) (vs : List (List D)) (v : List D), v ∈ (addRow k e ks vs).2 → v = [e] ∨ v ∈ vs ∨ ∃ u ∈ vs, v = u ++ [e]
  | [], vs, v, h => by simp [addRow] at h; exact .inl h
  | x :: ks, [], v, h => by simp [addRow] at h; exact .inl h
  | x :: ks, u :: vs, v, h => by
    have e1 : addRow k e (x :: ks) (u :: vs) = if x = k then (x :: ks, (u ++ [e]) :: vs) else (x :: (addRow k e ks vs).1, u :: (addRow k e ks vs).2) := rfl
    rw [e1] at h
    split at h
    · rcases List.mem_cons.mp h with h | h
      · exact .inr (.inr ⟨u, List.mem_cons_self, h⟩)
      · exact .inr (.inl (List.mem_cons_of_mem _ h))
    · rcases List.mem_cons.mp h with h | h
      · exact .inr (.inl (by rw [h]; exact List.mem_cons_self))
      · rcases addRow_mem k e ks vs v h with h | h | ⟨w, h1, h2⟩
        · exact .inl h
        · exact .inr (.inl (List.mem_cons_of_mem _ h))
        · exact .inr (.inr ⟨w, List.mem_cons_of_mem _ h1, h2⟩)
theorem rowAt_add (k k' e : D) : ∀ (ks : List D) (vs : List (List D)), ks.length = vs.length → rowAt k (addRow k' e ks vs).1 (addRow k' e ks vs).2 = if k' = k then rowAt k ks vs ++ [e] else rowAt k ks vs
  | [], [], _ => by
    show rowAt k [k'] [[e]] = _
    unfold rowAt
    by_cases h : k' = k
    · rw [if_pos h, if_pos h]; rfl
    · rw [if_neg h, if_neg h]; rfl
  | x :: ks, v :: vs, h => by
    have h : ks.length = vs.length := by simpa using h
    have e1 : addRow k' e (x :: ks) (v :: vs) = if x = k' then (x :: ks, (v ++ [e]) :: vs) else (x :: (addRow k' e ks vs).1, v :: (addRow k' e ks vs).2) := rfl
    have ih := rowAt_add k k' e ks vs h
    have r : rowAt k (x :: ks) (v :: vs) = if x = k then v else rowAt k ks vs := rfl
    rw [e1, r]
    by_cases hx : x = k'
    · rw [if_pos hx]
      show (if x = k then v ++ [e] else rowAt k ks vs) = _
      by_cases hk : x = k
      · rw [if_pos hk, if_pos (hx.symm.trans hk), if_pos hk]
      · rw [if_neg hk, if_neg (fun z => hk (hx.trans z)), if_neg hk]
    · rw [if_neg hx]
      show (if x = k then v else rowAt k (addRow k' e ks vs).1 (addRow k' e ks vs).2) = _
      by_cases hk : x = k
      · rw [if_pos hk, if_neg (fun z => hx (hk.trans z.symm)), if_pos hk]
      · rw [if_neg hk, ih, if_neg hk]
  | [], _ :: _, h => by simp at h
  | _ :: _, [], h => by simp at h
theorem keyAt_row (k : D) : ∀ (ks : List D) (vs : List (List D)), (keyAt k ks (vs.map D.lst)).getD (.lst []) = .lst (rowAt k ks vs)
  | [], vs => by unfold keyAt rowAt; rfl
  | x :: ks, [] => by unfold rowAt; rfl
  | x :: ks, v :: vs => by
    show ((if x = k then some (D.lst v) else keyAt k ks (vs.map D.lst)).getD _) = D.lst (if x = k then v else rowAt k ks vs)
    by_cases h : x = k
    · rw [if_pos h, if_pos h]; rfl
    · rw [if_neg h, if_neg h]; exact keyAt_row k ks vs
theorem keyAt_some (k : D) : ∀ (ks : List D) (vs : List (List D)), rowAt k ks vs ≠ [] → keyAt k ks (vs.map D.lst) = some (.lst (rowAt k ks vs))
  | [], vs, h => absurd (by unfold rowAt; rfl) h
  | x :: ks, [], h => absurd (by unfold rowAt; rfl) h
  | x :: ks, v :: vs, h => by
    have r : rowAt k (x :: ks) (v :: vs) = if x = k then v else rowAt k ks vs := rfl
    rw [r] at h ⊢
    show (if x = k then some (D.lst v) else keyAt k ks (vs.map D.lst)) = _
    by_cases hk : x = k
    · rw [if_pos hk, if_pos hk]
    · rw [if_neg hk] at h
      rw [if_neg hk, if_neg hk]; exact keyAt_some k ks vs h
theorem rowsG_len : ∀ (l : List Wy) (acc : List D × List (List D)), acc.1.length = acc.2.length → (rowsG acc l).1.length = (rowsG acc l).2.length
  | [], acc, h => h
  | w :: l, acc, h => rowsG_len l _ (addRow_len _ _ _ _ h).1
theorem rowsG_at (k : D) : ∀ (l : List Wy) (acc : List D × List (List D)), acc.1.length = acc.2.length → rowAt k (rowsG acc l).1 (rowsG acc l).2 = rowAt k acc.1 acc.2 ++ (l.filter fun w => decide (keyW w = k)).map lastW
  | [], acc, h => by simp [rowsG]
  | w :: l, acc, h => by
    have ih := rowsG_at k l _ (addRow_len (keyW w) (lastW w) _ _ h).1
    have e : rowsG acc (w :: l) = rowsG (addRow (keyW w) (lastW w) acc.1 acc.2) l := rfl
    rw [e, ih, rowAt_add _ _ _ _ _ h]
    by_cases hk : keyW w = k
    · simp [hk]
    · simp [hk]
theorem rowsOf_at (k : D) (l : List Wy) : rowAt k (rowsOf l).1 (rowsOf l).2 = (l.filter fun w => decide (keyW w = k)).map lastW := by
  have := rowsG_at k l ([], []) rfl
  unfold rowsOf
  rw [this]
  rfl
theorem keyW_tkey (w : Wy) : (keyW w).tkey = true := by
  cases w <;> simp [keyW, kOn, kOp, kCl, D.tkey, D.isKeyL, D.isKey, D.depL, D.dep]
def ixBody : List MS := [.asg (.nm 3) (.idx (.var 2) (.neg (.cst (.int 1)))), .asg (.nm 4) (.sl (.var 2) [] [(.neg (.cst (.int 1)))]), .ite (.cmp .eq (.idx (.var 2) (.cst (.int 0))) (.cst (.str sOpen))) [.asg (.nm 3) (.sl (.var 2) [(.cst (.int 3))] []), .asg (.nm 4) (.sl (.var 2) [] [(.cst (.int 3))])] []]
theorem ix_body (m : D) (w : Wy) (e3 e4 e5 : Ent) (h3 : isUI e3 = true) (h4 : isUI e4 = true) : evSs 0 ixBody [.im m, .hid, .im w.d, e3, e4, e5] = .ok (.nx, [.im m, .hid, .im w.d, .im (lastW w), .im (keyW w), e5]) := by
  unfold ixBody
  cases w with
  | on r s q =>
    have c1 : ixD [D.str sOn, D.int r, D.str [s], D.int q] (-1) = some (D.int q) := rfl
    have c2 : cutD [D.str sOn, D.int r, D.str [s], D.int q] none (some (-1)) = [D.str sOn, D.int r, D.str [s]] := rfl
    rcases isUI_or h3 with rfl | ⟨d, rfl⟩ <;> rcases isUI_or h4 with rfl | ⟨d, rfl⟩ <;> simp [evSs_cons, evS_for, ev_comp, rho0, entOf, isiD, tyN, tyL, isiB, b1D, lenD, cmpD, eqOk, eqD, eqL, D.dep, D.depL, iterD, itemsD, lockE, unlockE, idxD, slD, binD, addD, subD, mulD, divD, modD, negD, Wy.d, lastW, keyW, kOn, c1, c2]
  | op r s q k =>
    have c1 : ixD [D.str sOpen, D.int r, D.str [s], D.int q, D.int k] (-1) = some (D.int k) := rfl
    have c2 : cutD [D.str sOpen, D.int r, D.str [s], D.int q, D.int k] none (some (-1)) = [D.str sOpen, D.int r, D.str [s], D.int q] := rfl
    have c3 : cutD [D.str sOpen, D.int r, D.str [s], D.int q, D.int k] (some 3) none = [D.int q, D.int k] := rfl
    have c4 : cutD [D.str sOpen, D.int r, D.str [s], D.int q, D.int k] none (some 3) = [D.str sOpen, D.int r, D.str [s]] := rfl
    rcases isUI_or h3 with rfl | ⟨d, rfl⟩ <;> rcases isUI_or h4 with rfl | ⟨d, rfl⟩ <;> simp [evSs_cons, evS_for, ev_comp, rho0, entOf, isiD, tyN, tyL, isiB, b1D, lenD, cmpD, eqOk, eqD, eqL, D.dep, D.depL, iterD, itemsD, lockE, unlockE, idxD, slD, binD, addD, subD, mulD, divD, modD, negD, Wy.d, lastW, keyW, kOp, c1, c2, c3, c4]
  | cl r k s q =>
    have c1 : ixD [D.str sClose, D.int r, D.int k, D.str [s], D.int q] (-1) = some (D.int q) := rfl
    have c2 : cutD [D.str sClose, D.int r, D.int k, D.str [s], D.int q] none (some (-1)) = [D.str sClose, D.int r, D.int k, D.str [s]] := rfl
    rcases isUI_or h3 with rfl | ⟨d, rfl⟩ <;> rcases isUI_or h4 with rfl | ⟨d, rfl⟩ <;> simp [evSs_cons, evS_for, ev_comp, rho0, entOf, isiD, tyN, tyL, isiB, b1D, lenD, cmpD, eqOk, eqD, eqL, D.dep, D.depL, iterD, itemsD, lockE, unlockE, idxD, slD, binD, addD, subD, mulD, divD, modD, negD, Wy.d, lastW, keyW, kCl, c1, c2]
theorem ix_loop (m : D) : ∀ (l : List Wy) (ks : List D) (vs : List (List D)) (e2 e3 e4 e5 : Ent), isUI e2 = true → isUI e3 = true → isUI e4 = true → isUI e5 = true → ks.length = vs.length → ks.length + l.length ≤ 5000 → (∀ v ∈ vs, v.length + l.length ≤ 5000) →
    ∃ f2 f3 f4 f5, rowLoop (evSs 0 ixBody) (ev (.var 4)) (ev (.var 3)) (.nm 2) 1 5 (l.map Wy.d) ks vs [.im m, .hid, e2, e3, e4, e5] = .ok (.nx, [.im m, .im (.dic (rowsG (ks, vs) l).1 ((rowsG (ks, vs) l).2.map D.lst)), f2, f3, f4, f5])
  | [], ks, vs, e2, e3, e4, e5, _, _, _, _, _, _, _ => ⟨e2, e3, e4, e5, rfl⟩
  | w :: l, ks, vs, e2, e3, e4, e5, h2, h3, h4, h5, hl, hk, hv => by
    have hk1 : ks.length < 16777000 := by rw [List.length_cons] at hk; omega
    have hv1 : ∀ v ∈ vs, v.length < 16777000 := fun v hm => by have := hv v hm; omega
    have al := addRow_len (keyW w) (lastW w) ks vs hl
    obtain ⟨f2, f3, f4, f5, ih⟩ := ix_loop m l (addRow (keyW w) (lastW w) ks vs).1 (addRow (keyW w) (lastW w) ks vs).2 (.im w.d) (.im (lastW w)) (.im (keyW w)) .un rfl rfl rfl rfl al.1 (by rw [List.length_cons] at hk; omega) (fun v hm => by
      rw [List.length_cons] at hk hv
      rcases addRow_mem _ _ _ _ v hm with rfl | hm | ⟨u, hmu, rfl⟩
      · simp; omega
      · have := hv v hm; omega
      · have := hv u hmu
        simp; omega)
    refine ⟨f2, f3, f4, f5, ?_⟩
    rw [List.map_cons, rowLoop]
    have s1 : setT (.nm 2) w.d [.im m, .hid, e2, e3, e4, e5] = some [.im m, .hid, .im w.d, e3, e4, e5] := by rcases isUI_or h2 with rfl | ⟨d, rfl⟩ <;> rfl
    have s2 : setE [.im m, .hid, .im w.d, .im (lastW w), .im (keyW w), e5] 5 .un = some [.im m, .hid, .im w.d, .im (lastW w), .im (keyW w), .un] := by rcases isUI_or h5 with rfl | ⟨d, rfl⟩ <;> rfl
    rw [s1]
    dsimp only
    rw [ix_body m w e3 e4 e5 h3 h4]
    dsimp only
    have s3 : ev (.var 4) [.im m, .hid, .im w.d, .im (lastW w), .im (keyW w), e5] = .ok (keyW w, [.im m, .hid, .im w.d, .im (lastW w), .im (keyW w), e5]) := rfl
    have s4 : ev (.var 3) [.im m, .hid, .im w.d, .im (lastW w), .im (keyW w), .un] = .ok (lastW w, [.im m, .hid, .im w.d, .im (lastW w), .im (keyW w), .un]) := rfl
    rw [s3]
    dsimp only
    rw [s2]
    dsimp only
    rw [s4]
    dsimp only
    rw [if_pos ⟨keyW_tkey w, hk1, hv1⟩]
    exact ih
theorem index_of_eq {S : Sg} {n : Nat} {st en : List Nat} {ws : List Wy} {vs : List Wy} (hv : sortD (metD ws) = vs.map Wy.d) (hl : vs.length ≤ 4000) : E_index_of.F [mach S n st en ws] = .ok (indexD vs, []) := by
  rw [F_index_of]
  obtain ⟨e2, e3, e4, e5, lp⟩ := ix_loop (mach S n st en ws) vs [] [] .un .un .un .un rfl rfl rfl rfl rfl (by simp; omega) (by simp)
  unfold runF m_index_of
  have mw := m_ways_eq S n st en ws
  rw [hv] at mw
  have mo : mach S n st en ws = .obj "Machine" [sgT S, .int n, .lst (sortD (dn st)), .lst (sortD (dn en)), .lst (sortD (metD ws))] := rfl
  have lp2 := lp
  unfold ixBody at lp2
  have f1 : evS 0 (.asgF 1 .emp) [.im (mach S n st en ws), .un, .un, .un, .un, .un] = .ok (.nx, [.im (mach S n st en ws), .ow (.dic [] []), .un, .un, .un, .un]) := rfl
  have f2 : evS 0 (.forD (.nm 2) .seq [(.meth "Machine" E_Machine_ways (.var 0))] [.asg (.nm 3) (.idx (.var 2) (.neg (.cst (.int 1)))), .asg (.nm 4) (.sl (.var 2) [] [(.neg (.cst (.int 1)))]), .ite (.cmp .eq (.idx (.var 2) (.cst (.int 0))) (.cst (.str [111, 112, 101, 110]))) [.asg (.nm 3) (.sl (.var 2) [(.cst (.int 3))] []), .asg (.nm 4) (.sl (.var 2) [] [(.cst (.int 3))])] []] 1 5 (.var 4) (.var 3)) [.im (mach S n st en ws), .ow (.dic [] []), .un, .un, .un, .un] = .ok (.nx, [.im (mach S n st en ws), .im (indexD vs), e2, e3, e4, e5]) := by
    rw [evS_forD]
    have p1 : pres [(.meth "Machine" E_Machine_ways (.var 0))] [.im (mach S n st en ws), .ow (.dic [] []), .un, .un, .un, .un] = .ok ([some (.lst (vs.map Wy.d))], [.im (mach S n st en ws), .ow (.dic [] []), .un, .un, .un, .un]) := by
      rw [mo] at mw ⊢
      simp [mw]
    rw [p1]
    simp only [Out.bind_ok, finL_cons, finL_nil, fin_meth, Option.bind_some, iterD, itemsD]
    have lk : lockE [(.meth "Machine" E_Machine_ways (.var 0))] [.im (mach S n st en ws), .ow (.dic [] []), .un, .un, .un, .un] = [.im (mach S n st en ws), .ow (.dic [] []), .un, .un, .un, .un] := rfl
    rw [lk]
    have g1 : ([.im (mach S n st en ws), .ow (.dic [] []), .un, .un, .un, .un] : Rho)[1]? = some (.ow (.dic [] [])) := rfl
    rw [g1]
    dsimp only
    show unlockO _ _ (rowLoop _ _ _ _ _ _ _ _ _ [.im (mach S n st en ws), .hid, .un, .un, .un, .un]) = _
    rw [lp2]
    rfl
  have hr : rho0 [.im] [mach S n st en ws] 6 = [.im (mach S n st en ws), .un, .un, .un, .un, .un] := rfl
  rw [hr, evSs_step f1, evSs_step f2]
  simp [evSs_cons]
end PG

namespace PG
open NV PySem.W
/-! ### is_plain -/
def keysR (S : Sg) (n r : Nat) : List D := (S.2.2.map (kOn r) ++ S.1.map (kOp r)) ++ S.2.1.flatMap fun s => (List.range n).map fun k => kCl r k s
theorem kOn_tkey (r s : Nat) : (kOn r s).tkey = true := by simp [kOn, D.tkey, D.isKeyL, D.isKey, D.depL, D.dep]
theorem kOp_tkey (r s : Nat) : (kOp r s).tkey = true := by simp [kOp, D.tkey, D.isKeyL, D.isKey, D.depL, D.dep]
theorem kCl_tkey (r k s : Nat) : (kCl r k s).tkey = true := by simp [kCl, D.tkey, D.isKeyL, D.isKey, D.depL, D.dep]
theorem keysR_tkey {S : Sg} {n r : Nat} : ∀ k ∈ keysR S n r, k.tkey = true := fun k hk => by
  unfold keysR at hk
  simp only [List.mem_append, List.mem_map, List.mem_flatMap] at hk
  rcases hk with (⟨s, _, rfl⟩ | ⟨s, _, rfl⟩) | ⟨s, _, k', _, rfl⟩
  · exact kOn_tkey _ _
  · exact kOp_tkey _ _
  · exact kCl_tkey _ _ _
def oneAt (l : List Wy) (k : D) : Bool := decide ((l.filter fun w => decide (keyW w = k)).length = 1)
def isPlain (S : Sg) (n : Nat) (st : List Nat) (l : List Wy) : Bool := decide (st.length = 1) && (List.range n).all fun r => (keysR S n r).all (oneAt l)
def pB1 : MS := .asg (.nm 6) (.bin .add (.comp (.tup [(.cst (.str sOn)), (.var 2), (.var 7)]) (.nm 7) .seq [(.var 5)] [] [7]) (.comp (.tup [(.cst (.str sOpen)), (.var 2), (.var 7)]) (.nm 7) .seq [(.var 3)] [] [7]))
def pC1 : ME := .comp (.tup [(.cst (.str sClose)), (.var 2), (.var 8), (.var 7)]) (.nm 8) .rng1 [(.meth "Machine" E_Machine_rooms (.var 0))] [] [8]
def pB2 : MS := .for (.nm 7) .seq [(.var 4)] [.asg (.nm 6) (.bin .add (.var 6) pC1)]
def pB3 : MS := .ite (.not (.b1 .all (.comp (.cmp .eq (.b1 .len (.get (.var 1) (.var 9) (.lst []))) (.cst (.int 1))) (.nm 9) .seq [(.var 6)] [] [9]))) [.ret (.cst (.bl false))] []
section
variable {S : Sg} {n : Nat} {st en : List Nat} {ws vs : List Wy}
def pρ (M I : D) (S : Sg) (e2 e6 e7 e8 e9 : Ent) : Rho := [.im M, .im I, e2, .im (.str S.1), .im (.str S.2.1), .im (.str S.2.2), e6, e7, e8, e9]
theorem mach_eq : mach S n st en ws = .obj "Machine" [sgT S, .int n, .lst (sortD (dn st)), .lst (sortD (dn en)), .lst (sortD (metD ws))] := rfl
theorem p_b1 (M I : D) (hS : SgOk S) (r : Nat) (e6 e7 e8 e9 : Ent) (h6 : isUI e6 = true) (h7 : isUI e7 = true) : evS 0 pB1 (pρ M I S (.im (.int r)) e6 e7 e8 e9) = .ok (.nx, pρ M I S (.im (.int r)) (.im (.lst (S.2.2.map (kOn r) ++ S.1.map (kOp r)))) e7 e8 e9) := by
  have c1 := compLoop_map (elt := ev (.tup [(.cst (.str sOn)), (.var 2), (.var 7)])) (ifs := evIfs []) (tg := .nm 7) (own := [7]) (ρ := pρ M I S (.im (.int r)) e6 .un e8 e9) (f := fun d => .tup [.str sOn, .int r, d]) (items := S.2.2.map fun c => D.str [c]) (fun d hd => by
    simp [compStep, pρ, wiped])
  have c2 := compLoop_map (elt := ev (.tup [(.cst (.str sOpen)), (.var 2), (.var 7)])) (ifs := evIfs []) (tg := .nm 7) (own := [7]) (ρ := pρ M I S (.im (.int r)) e6 .un e8 e9) (f := fun d => .tup [.str sOpen, .int r, d]) (items := S.1.map fun c => D.str [c]) (fun d hd => by
    simp [compStep, pρ, wiped])
  have z1 : S.2.2.length ≤ szl := by have := hS.lc; unfold szl; omega
  have z2 : S.1.length ≤ szl := by have := hS.la; unfold szl; omega
  have z3 : S.2.2.length + S.1.length ≤ szl := by have := hS.la; have := hS.lc; unfold szl; omega
  unfold pρ at c1 c2 ⊢
  unfold pB1
  rcases isUI_or h6 with rfl | ⟨d6, rfl⟩ <;> rcases isUI_or h7 with rfl | ⟨d7, rfl⟩ <;> simp [ev_comp, iterD, itemsD, lockE, unlockE, c1, c2, z1, z2, z3, binD, addD, Function.comp_def] <;> rfl
theorem p_b2 (I : D) (hS : SgOk S) (hn : n ≤ 40) (r : Nat) (e7 e8 e9 : Ent) (h7 : isUI e7 = true) (h8 : isUI e8 = true) : ∃ f7, isUI f7 = true ∧ evS 0 pB2 (pρ (mach S n st en ws) I S (.im (.int r)) (.im (.lst (S.2.2.map (kOn r) ++ S.1.map (kOp r)))) e7 e8 e9) = .ok (.nx, pρ (mach S n st en ws) I S (.im (.int r)) (.im (.lst (keysR S n r))) f7 e8 e9) := by
  have mr := m_rooms_eq S n st en ws
  have lp := for_loopI (body := evSs 0 [.asg (.nm 6) (.bin .add (.var 6) pC1)]) (tg := .nm 7) (st := fun i (s : List D) ρ => ∃ f7, isUI f7 = true ∧ s.length ≤ 8 + 40 * i ∧ ρ = pρ (mach S n st en ws) I S (.im (.int r)) (.im (.lst s)) f7 e8 e9)
    (g := fun s d => match d with | .str [x] => .inl (s ++ (List.range n).map fun k => kCl r k x) | _ => .inl s) 4 (items := S.2.1.map fun c => D.str [c]) (i := 0) (s := S.2.2.map (kOn r) ++ S.1.map (kOp r)) (ρ := pρ (mach S n st en ws) I S (.im (.int r)) (.im (.lst (S.2.2.map (kOn r) ++ S.1.map (kOp r)))) e7 e8 e9)
    (by rw [List.length_map]; have := hS.lb; omega) ⟨e7, h7, by have := hS.la; have := hS.lc; simp; omega, rfl⟩ (fun i s ρ d hd hi ⟨f7, hf, hs, e⟩ => by
      subst e
      obtain ⟨x, _, rfl⟩ := List.mem_map.mp hd
      have c1 := compLoop_map (elt := ev (.tup [(.cst (.str sClose)), (.var 2), (.var 8), (.var 7)])) (ifs := evIfs []) (tg := .nm 8) (own := [8]) (ρ := pρ (mach S n st en ws) I S (.im (.int r)) (.im (.lst s)) (.im (.str [x])) .un e9) (f := fun d => .tup [.str sClose, .int r, d, .str [x]]) (items := rngD 0 n) (fun d hd => by
        simp [compStep, pρ, wiped])
      have z0 : (n : Int).natAbs ≤ 16777216 := by omega
      have z1 : (rngD 0 n).length ≤ szl := by unfold rngD szl; rw [List.length_map, List.length_range]; omega
      have z2 : s.length + (rngD 0 n).length ≤ szl := by unfold rngD szl; rw [List.length_map, List.length_range]; omega
      have e1 : (rngD 0 n).map (fun d => D.tup [.str sClose, .int r, d, .str [x]]) = (List.range n).map fun k => kCl r k x := by
        unfold rngD
        rw [List.map_map]
        refine List.map_congr_left fun k _ => ?_
        simp [kCl]
      refine ⟨pρ (mach S n st en ws) I S (.im (.int r)) (.im (.lst s)) (.im (.str [x])) e8 e9, ?_, _, ?_, .im (.str [x]), rfl, ?_, rfl⟩
      · rcases isUI_or hf with rfl | ⟨d, rfl⟩ <;> rfl
      · rw [e1] at c1
        have z3 : s.length + n ≤ szl := by unfold szl; omega
        have z0' : n ≤ 16777216 := by omega
        unfold pρ at c1 ⊢
        rw [mach_eq] at mr c1 ⊢
        unfold pC1
        rcases isUI_or h8 with rfl | ⟨d8, rfl⟩ <;> simp [evSs_cons, ev_comp, mr, iterD, z0, z0', z1, lockE, unlockE, c1, binD, addD, z3]
      · simp; omega)
  have lE : ∀ (l : List Nat) (s : List D), loopE (fun (s : List D) d => (match d with | .str [x] => .inl (s ++ (List.range n).map fun k => kCl r k x) | _ => .inl s : List D ⊕ D)) s (l.map fun c => D.str [c]) = .inl (s ++ l.flatMap fun x => (List.range n).map fun k => kCl r k x) := by
    intro l
    induction l with
    | nil => intro s; simp [loopE]
    | cons x l ih =>
      intro s
      rw [List.map_cons]
      unfold loopE
      dsimp only
      rw [ih]
      simp
  rw [lE] at lp
  obtain ⟨ρ', lp1, f7, hf, _, rfl⟩ := lp
  refine ⟨f7, hf, ?_⟩
  unfold pB2
  rw [evS_for]
  unfold pρ at lp1 ⊢
  simp [iterD, itemsD, lockE, unlockE, lp1, unlockO, keysR]
theorem p_b3 (M : D) (hS : SgOk S) (hn : n ≤ 40) (r : Nat) (e7 e8 e9 : Ent) (h9 : isUI e9 = true) : evS 0 pB3 (pρ M (indexD vs) S (.im (.int r)) (.im (.lst (keysR S n r))) e7 e8 e9) = if (keysR S n r).all (oneAt vs) then .ok (.nx, pρ M (indexD vs) S (.im (.int r)) (.im (.lst (keysR S n r))) e7 e8 e9) else .ok (.ret (.bl false), pρ M (indexD vs) S (.im (.int r)) (.im (.lst (keysR S n r))) e7 e8 e9) := by
  have kl : (keysR S n r).length ≤ szl := by
    unfold keysR szl
    have h1 := hS.la
    have h2 := hS.lc
    have h3 : (S.2.1.flatMap fun s => (List.range n).map fun k => kCl r k s).length = S.2.1.length * n := by
      rw [List.length_flatMap]
      have : ∀ l : List Nat, (l.map fun s => ((List.range n).map fun k => kCl r k s).length).sum = l.length * n := by
        intro l
        induction l with
        | nil => simp
        | cons x l ih =>
          rw [List.map_cons, List.sum_cons, ih, List.length_cons, Nat.succ_mul]
          simp
          omega
      exact this _
    have h4 : S.2.1.length * n ≤ 4 * 40 := Nat.mul_le_mul hS.lb hn
    simp only [List.length_append, List.length_map, h3]
    omega
  have c1 := compLoop_map (elt := ev (.cmp .eq (.b1 .len (.get (.var 1) (.var 9) (.lst []))) (.cst (.int 1)))) (ifs := evIfs []) (tg := .nm 9) (own := [9]) (ρ := pρ M (indexD vs) S (.im (.int r)) (.im (.lst (keysR S n r))) e7 e8 .un) (f := fun d => .bl (oneAt vs d)) (items := keysR S n r) (fun d hd => by
    have tk := keysR_tkey d hd
    have kr := keyAt_row d (rowsOf vs).1 (rowsOf vs).2
    rw [rowsOf_at] at kr
    have e1 : ((((vs.filter fun w => decide (keyW w = d)).length : Nat) : Int) == 1) = oneAt vs d := by
      unfold oneAt
      rw [Bool.eq_iff_iff]
      simp
      omega
    simp [compStep, pρ, indexD, tk, kr, b1D, lenD, cmpD, eqOk, D.dep, eqD, wiped, e1])
  have ab := allBl_map (oneAt vs) (keysR S n r)
  unfold pρ at c1 ⊢
  unfold pB3
  cases hq : (keysR S n r).all (oneAt vs) <;> rcases isUI_or h9 with rfl | ⟨d9, rfl⟩ <;> simp [ev_comp, iterD, itemsD, lockE, unlockE, kl, c1, b1D, ab, hq, evSs_cons]
theorem is_plain_eq (hS : SgOk S) (hn : n ≤ 40) (hv : sortD (metD ws) = vs.map Wy.d) (hl : vs.length ≤ 4000) : E_is_plain.F [mach S n st en ws] = .ok (.bl (isPlain S n st vs), []) := by
  rw [F_is_plain]
  have ix := index_of_eq (S := S) (n := n) (st := st) (en := en) hv hl
  have ms := m_signs_eq S n st en ws
  have mst := m_starts_eq S n st en ws
  have mr := m_rooms_eq S n st en ws
  have sl : (sortD (dn st)).length = st.length := by
    rw [(sortD_perm _).length_eq]
    simp [dn]
  have s1 : evS 0 (.asg (.nm 1) (.call E_index_of [(.var 0)])) [.im (mach S n st en ws), .un, .un, .un, .un, .un, .un, .un, .un, .un] = .ok (.nx, [.im (mach S n st en ws), .im (indexD vs), .un, .un, .un, .un, .un, .un, .un, .un]) := by
    simp [ix]
  have s2 : evS 0 (.asg (.tp [3, 4, 5]) (.meth "Machine" E_Machine_signs (.var 0))) [.im (mach S n st en ws), .im (indexD vs), .un, .un, .un, .un, .un, .un, .un, .un] = .ok (.nx, pρ (mach S n st en ws) (indexD vs) S .un .un .un .un .un) := by
    rw [mach_eq] at ms ⊢
    unfold sgT at ms ⊢
    simp [ms, pρ]
  have s3 : evS 0 (.ite (.cmp .ne (.b1 .len (.meth "Machine" E_Machine_starts (.var 0))) (.cst (.int 1))) [.ret (.cst (.bl false))] []) (pρ (mach S n st en ws) (indexD vs) S .un .un .un .un .un) = if st.length = 1 then .ok (.nx, pρ (mach S n st en ws) (indexD vs) S .un .un .un .un .un) else .ok (.ret (.bl false), pρ (mach S n st en ws) (indexD vs) S .un .un .un .un .un) := by
    rw [mach_eq] at mst ⊢
    by_cases h1 : st.length = 1
    · simp [pρ, mst, b1D, lenD, sl, cmpD, eqOk, D.dep, eqD, h1]
    · have h2 : ((st.length : Int) == 1) = false := by rw [beq_eq_false_iff_ne]; omega
      simp [pρ, mst, b1D, lenD, sl, cmpD, eqOk, D.dep, eqD, h1, h2, evSs_cons]
  have lp := for_loop (body := evSs 0 [pB1, pB2, pB3]) (tg := .nm 2) (st := fun (_ : Unit) ρ => ∃ e2 e6 e7 e8 e9, isUI e2 = true ∧ isUI e6 = true ∧ isUI e7 = true ∧ isUI e8 = true ∧ isUI e9 = true ∧ ρ = pρ (mach S n st en ws) (indexD vs) S e2 e6 e7 e8 e9)
    (g := fun _ d => match d with | .int r => if (keysR S n r.toNat).all (oneAt vs) then .inl () else .inr (.bl false) | _ => .inl ()) (items := rngD 0 n) (s := ()) (ρ := pρ (mach S n st en ws) (indexD vs) S .un .un .un .un .un) ⟨.un, .un, .un, .un, .un, rfl, rfl, rfl, rfl, rfl, rfl⟩
    (fun s ρ d hd ⟨e2, e6, e7, e8, e9, h2, h6, h7, h8, h9, e⟩ => by
      subst e
      obtain ⟨r, hr, rfl⟩ := List.mem_map.mp hd
      have e0 : ((0 : Int) + (r : Int)) = (r : Int) := by omega
      rw [e0]
      refine ⟨pρ (mach S n st en ws) (indexD vs) S (.im (.int r)) e6 e7 e8 e9, ?_, ?_⟩
      · rcases isUI_or h2 with rfl | ⟨d, rfl⟩ <;> rfl
      · have b1 := p_b1 (mach S n st en ws) (indexD vs) hS r e6 e7 e8 e9 h6 h7
        obtain ⟨f7, hf7, b2⟩ := p_b2 (st := st) (en := en) (ws := ws) (indexD vs) hS hn r e7 e8 e9 h7 h8
        have b3 := p_b3 (vs := vs) (mach S n st en ws) hS hn r f7 e8 e9 h9
        have tn : ((r : Int)).toNat = r := by omega
        dsimp only
        rw [tn, evSs_step b1, evSs_step b2]
        cases hq : (keysR S n r).all (oneAt vs) with
        | true =>
          rw [hq, if_pos rfl] at b3
          rw [if_pos rfl]
          exact ⟨_, by rw [evSs_step b3]; rfl, _, _, _, _, _, rfl, rfl, hf7, h8, h9, rfl⟩
        | false =>
          rw [hq, if_neg (by simp)] at b3
          rw [if_neg (by simp)]
          exact ⟨_, by rw [evSs_done b3]⟩)
  have lE : ∀ l : List Nat, loopE (fun (_ : Unit) d => (match d with | .int r => if (keysR S n r.toNat).all (oneAt vs) then .inl () else .inr (.bl false) | _ => .inl () : Unit ⊕ D)) () (l.map fun k : Nat => D.int ((0 : Int) + k)) = if l.all (fun r => (keysR S n r).all (oneAt vs)) then .inl () else .inr (.bl false) := by
    intro l
    induction l with
    | nil => rfl
    | cons x l ih =>
      rw [List.map_cons]
      unfold loopE
      have tn : ((0 : Int) + (x : Int)).toNat = x := by omega
      dsimp only
      rw [tn]
      cases hq : (keysR S n x).all (oneAt vs) with
      | true =>
        rw [if_pos rfl]
        dsimp only
        rw [ih]
        simp [hq]
      | false =>
        rw [if_neg (by simp)]
        simp [hq]
  have lp0 := lp
  unfold rngD at lp
  rw [lE] at lp
  have z0 : (n : Int).natAbs ≤ 16777216 := by omega
  have z0' : n ≤ 16777216 := by omega
  have hr : rho0 [.im] [mach S n st en ws] 10 = [.im (mach S n st en ws), .un, .un, .un, .un, .un, .un, .un, .un, .un] := rfl
  unfold runF m_is_plain
  rw [hr, evSs_step s1, evSs_step s2]
  by_cases h1 : st.length = 1
  · rw [if_pos h1] at s3
    rw [evSs_step s3]
    have f4 : ∀ r, forLoop (evSs 0 [pB1, pB2, pB3]) (.nm 2) (rngD 0 n) (pρ (mach S n st en ws) (indexD vs) S .un .un .un .un .un) = .ok r → evS 0 (.for (.nm 2) .rng1 [(.meth "Machine" E_Machine_rooms (.var 0))] [pB1, pB2, pB3]) (pρ (mach S n st en ws) (indexD vs) S .un .un .un .un .un) = .ok r := fun r hrr => by
      rw [evS_for]
      rw [mach_eq] at mr hrr ⊢
      unfold pρ at hrr ⊢
      have hN : ((n : Int)).toNat = n := by omega
      simp [mr, iterD, z0, z0', lockE, unlockE, hN, hrr, unlockO]
    cases hq : (List.range n).all (fun r => (keysR S n r).all (oneAt vs)) with
    | true =>
      rw [hq, if_pos rfl] at lp
      obtain ⟨ρ', lp1, _⟩ := lp
      have f5 := f4 _ lp1
      unfold pB1 pB2 pB3 pC1 at f5
      rw [evSs_step f5]
      simp [evSs_cons, isPlain, h1, hq]
    | false =>
      rw [hq, if_neg (by simp)] at lp
      obtain ⟨ρ', lp1⟩ := lp
      have f5 := f4 _ lp1
      unfold pB1 pB2 pB3 pC1 at f5
      rw [evSs_done f5]
      simp [isPlain, h1, hq]
  · rw [if_neg h1] at s3
    rw [evSs_done s3]
    simp [isPlain, h1]
end
end PG

namespace PG
open NV PySem.W
/-! ### signs by a cell -/
theorem cut_at {α : Type} (l : List α) (i j : Nat) : cutD l (some (i : Int)) (some (j : Int)) = (l.drop i).take (j - i) := by
  unfold cutD
  rw [HT.sIx_nat, HT.sIx_nat]
  by_cases hi : i ≤ l.length
  · rw [Nat.min_eq_left hi]
    by_cases hj : j ≤ l.length
    · rw [Nat.min_eq_left hj]
    · rw [Nat.min_eq_right (by omega), List.take_of_length_le (by rw [List.length_drop]; omega), List.take_of_length_le (by rw [List.length_drop]; omega)]
  · rw [Nat.min_eq_right (by omega : l.length ≤ i), List.drop_of_length_le (Nat.le_refl _), List.drop_of_length_le (by omega : l.length ≤ i)]
    simp
theorem cut_to {α : Type} (l : List α) (j : Nat) : cutD l none (some (j : Int)) = l.take j := by
  have := cut_at l 0 j
  have e : cutD l none (some (j : Int)) = cutD l (some ((0 : Nat) : Int)) (some (j : Int)) := by
    unfold cutD
    rw [HT.sIx_nat, HT.sIx_none]
    have z : HT.sIx l.length 0 (some (0 : Int)) = 0 := by simpa using HT.sIx_nat l.length 0 0
    simp [z]
  rw [e, this]
  simp
theorem sg_cut {row : List Nat} (hl : ∀ x ∈ row, isLet x = true) (nd : row.Nodup) {i j k : Nat} (h1 : i ≤ 4) (h2 : i ≤ j) (h3 : j ≤ i + 4) (h4 : j ≤ k) (h5 : k ≤ j + 4) : SgOk (cutD row none (some (i : Int)), cutD row (some (i : Int)) (some (j : Int)), cutD row (some (j : Int)) (some (k : Int))) := by
  rw [cut_at, cut_at, cut_to]
  have e : row.take i ++ (row.drop i).take (j - i) ++ (row.drop j).take (k - j) = row.take k := by
    have e1 : row.take i ++ (row.drop i).take (j - i) = row.take j := by
      rw [← List.take_add, show i + (j - i) = j by omega]
    rw [e1, ← List.take_add, show j + (k - j) = k by omega]
  refine ⟨?_, ?_, ?_, ?_, ?_⟩
  · simp only [List.length_take]; omega
  · simp only [List.length_take]; omega
  · simp only [List.length_take]; omega
  · dsimp only
    rw [e]
    exact fun x hx => hl x (List.mem_of_mem_take hx)
  · dsimp only
    rw [e]
    exact nd.sublist (List.take_sublist _ _)
theorem row_nodup (c : Int) (n : Nat) (hn : n ≤ 26) : (rowOf c n).Nodup := by
  unfold rowOf
  rw [List.Nodup, List.pairwise_map]
  refine (List.pairwise_lt_range (n := n)).imp_of_mem fun {a b} ha hb h z => ?_
  have ha := List.mem_range.mp ha
  have hb := List.mem_range.mp hb
  have hs := mod_b (c / 26) 5 (by omega)
  unfold stepOf at z
  have : c / 26 % 5 = 0 ∨ c / 26 % 5 = 1 ∨ c / 26 % 5 = 2 ∨ c / 26 % 5 = 3 ∨ c / 26 % 5 = 4 := by omega
  rcases this with e | e | e | e | e <;> rw [e] at z <;> omega
theorem row_let (c : Int) (n : Nat) : ∀ x ∈ rowOf c n, isLet x = true := List.all_eq_true.mp (rowOf_let c n)
def anyS (c : Int) : Sg := if c / 7800 % 8 = 3 then
    (cutD (rowOf c 12) none (some (1 + c / 130 % 4)), cutD (rowOf c 12) (some (1 + c / 130 % 4)) (some (1 + c / 130 % 4 + 1 + c / 520 % 4)), cutD (rowOf c 12) (some (1 + c / 130 % 4 + 1 + c / 520 % 4)) (some (1 + c / 130 % 4 + 1 + c / 520 % 4 + 1 + c / 2600 % 4)))
  else (sgA c, sgB c, sgC c)
theorem anyS_ok (c : Int) : SgOk (anyS c) := by
  unfold anyS
  split
  · have h1 := mod_b (c / 130) 4 (by omega)
    have h2 := mod_b (c / 520) 4 (by omega)
    have h3 := mod_b (c / 2600) 4 (by omega)
    have e1 : 1 + c / 130 % 4 = ((1 + c / 130 % 4).toNat : Int) := by omega
    have e2 : 1 + c / 130 % 4 + 1 + c / 520 % 4 = ((1 + c / 130 % 4 + 1 + c / 520 % 4).toNat : Int) := by omega
    have e3 : 1 + c / 130 % 4 + 1 + c / 520 % 4 + 1 + c / 2600 % 4 = ((1 + c / 130 % 4 + 1 + c / 520 % 4 + 1 + c / 2600 % 4).toNat : Int) := by omega
    rw [e3, e2, e1]
    exact sg_cut (row_let c 12) (row_nodup c 12 (by omega)) (by omega) (by omega) (by omega) (by omega) (by omega)
  · have h1 := mod_b (c / 130) 4 (by omega)
    have h2 := mod_b (c / 520) 5 (by omega)
    have h3 := mod_b (c / 2600) 3 (by omega)
    unfold sgA sgB sgC
    have b1 : 0 ≤ oneOf c ∧ oneOf c ≤ 2 := by
      unfold oneOf
      have : c / 130 % 4 = 0 ∨ c / 130 % 4 = 1 ∨ c / 130 % 4 = 2 ∨ c / 130 % 4 = 3 := by omega
      rcases this with e | e | e | e <;> rw [e] <;> decide
    have b2 : oneOf c ≤ otherOf c ∧ otherOf c ≤ oneOf c + 2 := by
      unfold otherOf
      have : c / 520 % 5 = 0 ∨ c / 520 % 5 = 1 ∨ c / 520 % 5 = 2 ∨ c / 520 % 5 = 3 ∨ c / 520 % 5 = 4 := by omega
      rcases this with e | e | e | e | e <;> rw [e] <;> simp <;> omega
    have e1 : oneOf c = ((oneOf c).toNat : Int) := by omega
    have e2 : otherOf c = ((otherOf c).toNat : Int) := by omega
    have e3 : otherOf c + c / 2600 % 3 = ((otherOf c + c / 2600 % 3).toNat : Int) := by omega
    rw [e3, e2, e1]
    exact sg_cut (row_let c 6) (row_nodup c 6 (by omega)) (by omega) (by omega) (by omega) (by omega) (by omega)
theorem row_comp (c : Int) (n : Nat) (e3 e4 e5 : Ent) : compLoop (ev (.idx (.var 1) (.bin .mod (.bin .add (.var 0) (.bin .mul (.var 2) (.var 6))) (.cst (.int 26))))) (evIfs []) (.nm 6) [6] (rngD 0 n) [.im (.int c), .im (.str abc), .im (.int (stepOf c)), e3, e4, e5, .un] =
      .ok ((rowOf c n).map fun x => D.str [x], [.im (.int c), .im (.str abc), .im (.int (stepOf c)), e3, e4, e5, .un]) := by
  have hs : (stepOf c).natAbs < 2 ^ 64 := by
    have := mod_b (c / 26) 5 (by omega)
    unfold stepOf
    omega
  have h := compLoop_map (elt := ev (.idx (.var 1) (.bin .mod (.bin .add (.var 0) (.bin .mul (.var 2) (.var 6))) (.cst (.int 26))))) (ifs := evIfs []) (tg := .nm 6) (own := [6]) (ρ := [.im (.int c), .im (.str abc), .im (.int (stepOf c)), e3, e4, e5, .un])
    (f := fun d => match d with | .int k => .str [97 + ((c + stepOf c * k) % 26).toNat] | _ => .non) (items := rngD 0 n) (fun d hd => by
      obtain ⟨k, _, rfl⟩ := List.mem_map.mp hd
      have hm := mod_b (c + stepOf c * ((0 : Int) + k)) 26 (by omega)
      have hi := ix_abc _ hm.1 hm.2
      simp only [Int.zero_add] at hi
      simp [compStep, binD, mulD, addD, modD, hs, idxD, hi, wiped])
  rw [h]
  unfold rngD rowOf
  rw [List.map_map, List.map_map]
  simp [Function.comp_def]
theorem any_signs_eq (c : Int) : E__law_any_signs_by.F [.int c] = .ok (sgT (anyS c), []) := by
  rw [F__law_any_signs_by]
  unfold runF
  have hr0 : rho0 [.im] [.int c] 7 = [.im (.int c), .un, .un, .un, .un, .un, .un] := rfl
  unfold m__law_any_signs_by
  by_cases h : c / 7800 % 8 = 3
  · have s0 : evS 0 (.ite (.cmp .ne (.bin .mod (.bin .div (.var 0) (.cst (.int 7800))) (.cst (.int 8))) (.cst (.int 3))) [.ret (.call E__law_signs_by [(.var 0)])] []) [.im (.int c), .un, .un, .un, .un, .un, .un] = .ok (.nx, [.im (.int c), .un, .un, .un, .un, .un, .un]) := by
      simp [evSs_cons, evS_for, ev_comp, rho0, entOf, isiD, tyN, tyL, isiB, b1D, lenD, cmpD, eqOk, eqD, eqL, D.dep, D.depL, iterD, itemsD, lockE, unlockE, idxD, slD, binD, addD, subD, mulD, divD, modD, negD, h]
    have s1 : evS 0 (.asg (.nm 1) (.cst (.str [97, 98, 99, 100, 101, 102, 103, 104, 105, 106, 107, 108, 109, 110, 111, 112, 113, 114, 115, 116, 117, 118, 119, 120, 121, 122]))) [.im (.int c), .un, .un, .un, .un, .un, .un] = .ok (.nx, [.im (.int c), .im (.str abc), .un, .un, .un, .un, .un]) := rfl
    have s2 : evS 0 (.asg (.nm 2) (.bin .add (.cst (.int 1)) (.bin .mul (.cst (.int 2)) (.bin .mod (.bin .div (.var 0) (.cst (.int 26))) (.cst (.int 5)))))) [.im (.int c), .im (.str abc), .un, .un, .un, .un, .un] = .ok (.nx, [.im (.int c), .im (.str abc), .im (.int (stepOf c)), .un, .un, .un, .un]) := by
      simp [binD, addD, mulD, divD, modD, stepOf]
    have hl : (rngD 0 12).length ≤ szl := by unfold rngD szl; rw [List.length_map, List.length_range]; exact Nat.le_of_ble_eq_true rfl
    have as := allStr_map (fun x : Nat => [x]) (rowOf c 12)
    have jl := joinL_nil_sing (rowOf c 12)
    have e := row_comp c 12 .un .un .un
    have s3 : evS 0 (.asg (.nm 3) (.join (.cst (.str [])) (.comp (.idx (.var 1) (.bin .mod (.bin .add (.var 0) (.bin .mul (.var 2) (.var 6))) (.cst (.int 26)))) (.nm 6) .rng1 [(.cst (.int 12))] [] [6]))) [.im (.int c), .im (.str abc), .im (.int (stepOf c)), .un, .un, .un, .un] = .ok (.nx, [.im (.int c), .im (.str abc), .im (.int (stepOf c)), .im (.str (rowOf c 12)), .un, .un, .un]) := by
      have hr : iterD .rng1 [.int 12] = some (rngD 0 12) := rfl
      have hle : (List.map (List.length ∘ fun x => [x]) (rowOf c 12)).sum ≤ 16777216 := by rw [sum_sing, rowOf_len]; omega
      simp [ev_comp, lockE, unlockE, hl, e, as, jl, hr, hle]
    rw [hr0, evSs_step s0, evSs_step s1, evSs_step s2, evSs_step s3]
    simp [evSs_cons, evS_for, ev_comp, rho0, entOf, isiD, tyN, tyL, isiB, b1D, lenD, cmpD, eqOk, eqD, eqL, D.dep, D.depL, iterD, itemsD, lockE, unlockE, idxD, slD, binD, addD, subD, mulD, divD, modD, negD, anyS, h, sgT]
  · have hb : (c / 7800 % 8 == 3) = false := by rw [beq_eq_false_iff_ne]; exact h
    have s := signs_by_eq c
    rw [hr0]
    simp [evSs_cons, evS_for, ev_comp, rho0, entOf, isiD, tyN, tyL, isiB, b1D, lenD, cmpD, eqOk, eqD, eqL, D.dep, D.depL, iterD, itemsD, lockE, unlockE, idxD, slD, binD, addD, subD, mulD, divD, modD, negD, hb, s, anyS, h, sgT, sgD]
end PG

namespace PG
open NV PySem.W
/-! ### ways by a cell -/
def isOp : Wy → Bool
  | .op .. => true
  | _ => false
theorem ix_mem {a : List Nat} (x : Int) (h : a ≠ []) : ∃ ch ∈ a, ixD a (x % a.length) = some ch := by
  have hl : 0 < (a.length : Int) := by
    have : a.length ≠ 0 := fun z => h (List.length_eq_zero_iff.mp z)
    omega
  have := mod_b x a.length hl
  have h2 : (x % a.length).toNat < a.length := by omega
  refine ⟨a[(x % a.length).toNat], List.getElem_mem h2, ?_⟩
  unfold ixD
  rw [if_pos this.1, List.getElem?_eq_getElem h2]
theorem ixW {l : List Wy} (x : Int) (h : l ≠ []) : ∃ w ∈ l, ixD (l.map Wy.d) (x % l.length) = some w.d := by
  have hl : 0 < (l.length : Int) := by
    have : l.length ≠ 0 := fun z => h (List.length_eq_zero_iff.mp z)
    omega
  have := mod_b x l.length hl
  have h2 : (x % l.length).toNat < l.length := by omega
  refine ⟨l[(x % l.length).toNat], List.getElem_mem h2, ?_⟩
  unfold ixD
  rw [if_pos this.1, List.getElem?_map, List.getElem?_eq_getElem h2]
  rfl
theorem depW : ∀ l : List Wy, D.depL (l.map Wy.d) ≤ 1
  | [] => by simp [D.depL]
  | w :: l => by
    have := depW l
    rw [List.map_cons]
    unfold D.depL
    have h1 : (Wy.d w).dep = 1 := by cases w <;> simp [Wy.d, D.dep, D.depL]
    omega
theorem eqOk_ways (l : List Wy) : eqOk (.lst (l.map Wy.d)) (.lst []) = true := by
  have := depW l
  unfold eqOk D.dep
  simp [D.depL]
  omega
theorem eqOk_str (s t : List Nat) : eqOk (.str s) (.str t) = true := rfl
theorem modN (x : Int) {n : Nat} (hn : 1 ≤ n) : ∃ r : Nat, r < n ∧ x % (n : Int) = r := by
  have := mod_b x n (by omega)
  exact ⟨(x % n).toNat, by omega, by omega⟩
def optD (o : Option Wy) : D := match o with | some w => w.d | none => .non
theorem way_by_ex (cell : Int) {S : Sg} {n : Nat} (hn : 1 ≤ n) (ops : List Wy) (ho : ∀ w ∈ ops, WyOk S n w ∧ isOp w = true) (m : Int) : ∃ o : Option Wy, (∀ w, o = some w → WyOk S n w) ∧ E__law_way_by.F [.int cell, sgT S, .int n, .lst (ops.map Wy.d), .int m] = .ok (optD o, []) := by
  obtain ⟨r5, h5, e5⟩ := modN (cell / 4) hn
  obtain ⟨r6, h6, e6⟩ := modN (cell / 16) hn
  obtain ⟨r7, h7, e7⟩ := modN (cell / 64) hn
  have hn0 : (0 : Int) < (n : Int) := by omega
  have hn1 : 0 < n := by omega
  have hr : rho0 [.im, .im, .im, .im, .im] [.int cell, sgT S, .int n, .lst (ops.map Wy.d), .int m] 8 = [.im (.int cell), .im (sgT S), .im (.int n), .im (.lst (ops.map Wy.d)), .im (.int m), .un, .un, .un] := rfl
  have s1 : evS 0 (.asg (.nm 5) (.bin .mod (.bin .div (.var 0) (.cst (.int 4))) (.var 2))) [.im (.int cell), .im (sgT S), .im (.int n), .im (.lst (ops.map Wy.d)), .im (.int m), .un, .un, .un] = .ok (.nx, [.im (.int cell), .im (sgT S), .im (.int n), .im (.lst (ops.map Wy.d)), .im (.int m), .im (.int r5), .un, .un]) := by
    simp [binD, divD, modD, hn0, hn1, e5]
  have s2 : evS 0 (.asg (.nm 6) (.bin .mod (.bin .div (.var 0) (.cst (.int 16))) (.var 2))) [.im (.int cell), .im (sgT S), .im (.int n), .im (.lst (ops.map Wy.d)), .im (.int m), .im (.int r5), .un, .un] = .ok (.nx, [.im (.int cell), .im (sgT S), .im (.int n), .im (.lst (ops.map Wy.d)), .im (.int m), .im (.int r5), .im (.int r6), .un]) := by
    simp [binD, divD, modD, hn0, hn1, e6]
  have s3 : evS 0 (.asg (.nm 7) (.bin .mod (.bin .div (.var 0) (.cst (.int 64))) (.var 2))) [.im (.int cell), .im (sgT S), .im (.int n), .im (.lst (ops.map Wy.d)), .im (.int m), .im (.int r5), .im (.int r6), .un] = .ok (.nx, [.im (.int cell), .im (sgT S), .im (.int n), .im (.lst (ops.map Wy.d)), .im (.int m), .im (.int r5), .im (.int r6), .im (.int r7)]) := by
    simp [binD, divD, modD, hn0, hn1, e7]
  have q3 := eqOk_ways ops
  -- the three ends
  have key : ∃ (o : Option Wy) (ρ' : Rho), (∀ w, o = some w → WyOk S n w) ∧ evSs 0 (m__law_way_by.drop 3) [.im (.int cell), .im (sgT S), .im (.int n), .im (.lst (ops.map Wy.d)), .im (.int m), .im (.int r5), .im (.int r6), .im (.int r7)] = .ok (.ret (optD o), ρ') := by
    unfold m__law_way_by sgT
    simp only [List.drop_succ_cons, List.drop_zero]
    obtain ⟨A, B, C⟩ := S
    -- the last part
    have last : ∀ (x5 x6 : Nat), x5 < n → x6 < n → ∃ (o : Option Wy) (ρ' : Rho), (∀ w, o = some w → WyOk (A, B, C) n w) ∧ evSs 0 [.ite (.cmp .ne (.idx (.var 1) (.cst (.int 2))) (.cst (.str []))) [.ret (.tup [(.cst (.str [111, 110])), (.var 5), (.idx (.idx (.var 1) (.cst (.int 2))) (.bin .mod (.bin .div (.var 0) (.cst (.int 256))) (.b1 .len (.idx (.var 1) (.cst (.int 2)))))), (.var 6)])] [], .ret (.cst .non)] [.im (.int cell), .im (.tup [.str A, .str B, .str C]), .im (.int n), .im (.lst (ops.map Wy.d)), .im (.int m), .im (.int x5), .im (.int x6), .im (.int r7)] = .ok (.ret (optD o), ρ') := fun x5 x6 g5 g6 => by
      by_cases hc : C = []
      · subst hc
        exact ⟨none, _, fun w z => (by cases z), by simp [evSs_cons, evS_for, ev_comp, rho0, entOf, isiD, tyN, tyL, isiB, b1D, lenD, cmpD, eqOk, eqD, eqL, D.dep, D.depL, iterD, itemsD, lockE, unlockE, idxD, slD, binD, addD, subD, mulD, divD, modD, negD, optD]; rfl⟩
      · obtain ⟨ch, hm, hx⟩ := ix_mem (cell / 256) hc
        have hc2 : (C == []) = false := by simpa using hc
        have hl : (0 : Int) < C.length := by
          have : C.length ≠ 0 := fun z => hc (List.length_eq_zero_iff.mp z)
          omega
        have hl2 : 0 < C.length := by omega
        exact ⟨some (.on x5 ch x6), _, fun w z => by cases z; exact ⟨g5, hm, g6⟩, by simp [evSs_cons, evS_for, ev_comp, rho0, entOf, isiD, tyN, tyL, isiB, b1D, lenD, cmpD, eqOk, eqD, eqL, D.dep, D.depL, iterD, itemsD, lockE, unlockE, idxD, slD, binD, addD, subD, mulD, divD, modD, negD, optD, Wy.d, hc2, hl, hl2, hx]; rfl⟩
    -- the closing part
    have clo : ∃ (o : Option Wy) (ρ' : Rho), (∀ w, o = some w → WyOk (A, B, C) n w) ∧ evSs 0 [.ite (.and [(.cmp .lt (.bin .mod (.var 0) (.cst (.int 4))) (.cst (.int 2))), (.cmp .ne (.idx (.var 1) (.cst (.int 1))) (.cst (.str [])))]) [.ite (.and [(.cmp .ne (.var 3) (.lst [])), (.cmp .gt (.bin .mod (.bin .div (.var 0) (.cst (.int 1024))) (.cst (.int 4))) (.cst (.int 0)))]) [.asg (.tp [5, 6]) (.sl (.idx (.var 3) (.bin .mod (.bin .div (.var 0) (.cst (.int 16))) (.b1 .len (.var 3)))) [(.cst (.int 3))] [])] [], .ret (.tup [(.cst (.str [99, 108, 111, 115, 101])), (.var 5), (.var 6), (.idx (.idx (.var 1) (.cst (.int 1))) (.bin .mod (.bin .div (.var 0) (.cst (.int 256))) (.b1 .len (.idx (.var 1) (.cst (.int 1)))))), (.var 7)])] [], .ite (.cmp .ne (.idx (.var 1) (.cst (.int 2))) (.cst (.str []))) [.ret (.tup [(.cst (.str [111, 110])), (.var 5), (.idx (.idx (.var 1) (.cst (.int 2))) (.bin .mod (.bin .div (.var 0) (.cst (.int 256))) (.b1 .len (.idx (.var 1) (.cst (.int 2)))))), (.var 6)])] [], .ret (.cst .non)] [.im (.int cell), .im (.tup [.str A, .str B, .str C]), .im (.int n), .im (.lst (ops.map Wy.d)), .im (.int m), .im (.int r5), .im (.int r6), .im (.int r7)] = .ok (.ret (optD o), ρ') := by
      by_cases hb : cell % 4 < 2 ∧ B ≠ []
      · obtain ⟨hb1, hb2⟩ := hb
        obtain ⟨ch, hm, hx⟩ := ix_mem (cell / 256) hb2
        have hb3 : (B == []) = false := by simpa using hb2
        have hl : (0 : Int) < B.length := by
          have : B.length ≠ 0 := fun z => hb2 (List.length_eq_zero_iff.mp z)
          omega
        have hl2 : 0 < B.length := by omega
        by_cases hq : ops ≠ [] ∧ 0 < cell / 1024 % 4
        · obtain ⟨hq1, hq2⟩ := hq
          obtain ⟨w, hw, hix⟩ := ixW (cell / 16) hq1
          obtain ⟨ok, iop⟩ := ho w hw
          cases w with
          | op r0 s0 q0 k0 =>
            obtain ⟨_, _, g1, g2⟩ := ok
            have c1 : cutD [D.str sOpen, D.int r0, D.str [s0], D.int q0, D.int k0] (some 3) none = [D.int q0, D.int k0] := rfl
            have ne : eqL (ops.map Wy.d) [] = false := by
              cases ops with
              | nil => exact absurd rfl hq1
              | cons _ _ => rfl
            have hol : (0 : Int) < ops.length := by
              have : ops.length ≠ 0 := fun z => hq1 (List.length_eq_zero_iff.mp z)
              omega
            have hol2 : 0 < ops.length := by omega
            have dw := depW ops
            have dw2 : D.depL (ops.map Wy.d) + 1 ≤ 64 := by omega
            exact ⟨some (.cl q0 k0 ch r7), _, fun w z => by cases z; exact ⟨g1, g2, hm, h7⟩, by simp [evSs_cons, evS_for, ev_comp, rho0, entOf, isiD, tyN, tyL, isiB, b1D, lenD, cmpD, eqOk, eqD, eqL, D.dep, D.depL, iterD, itemsD, lockE, unlockE, idxD, slD, binD, addD, subD, mulD, divD, modD, negD, optD, Wy.d, hb1, hb3, hl, hl2, hx, ne, hq2, hol, hol2, hix, c1, dw2]; rfl⟩
          | _ => cases iop
        · have hcond : ops = [] ∨ ¬ 0 < cell / 1024 % 4 := by
            by_cases z : ops = []
            · exact .inl z
            · exact .inr fun y => hq ⟨z, y⟩
          refine ⟨some (.cl r5 r6 ch r7), ?_⟩
          rcases hcond with rfl | hq2
          · exact ⟨_, fun w z => by cases z; exact ⟨h5, h6, hm, h7⟩, by simp [evSs_cons, evS_for, ev_comp, rho0, entOf, isiD, tyN, tyL, isiB, b1D, lenD, cmpD, eqOk, eqD, eqL, D.dep, D.depL, iterD, itemsD, lockE, unlockE, idxD, slD, binD, addD, subD, mulD, divD, modD, negD, optD, Wy.d, hb1, hb3, hl, hl2, hx]; rfl⟩
          · have dw := depW ops
            have dw2 : D.depL (ops.map Wy.d) + 1 ≤ 64 := by omega
            cases hz : eqL (ops.map Wy.d) [] with
            | true => exact ⟨_, fun w z => by cases z; exact ⟨h5, h6, hm, h7⟩, by simp [evSs_cons, evS_for, ev_comp, rho0, entOf, isiD, tyN, tyL, isiB, b1D, lenD, cmpD, eqOk, eqD, eqL, D.dep, D.depL, iterD, itemsD, lockE, unlockE, idxD, slD, binD, addD, subD, mulD, divD, modD, negD, optD, Wy.d, hb1, hb3, hl, hl2, hx, hz, dw2]; rfl⟩
            | false => exact ⟨_, fun w z => by cases z; exact ⟨h5, h6, hm, h7⟩, by simp [evSs_cons, evS_for, ev_comp, rho0, entOf, isiD, tyN, tyL, isiB, b1D, lenD, cmpD, eqOk, eqD, eqL, D.dep, D.depL, iterD, itemsD, lockE, unlockE, idxD, slD, binD, addD, subD, mulD, divD, modD, negD, optD, Wy.d, hb1, hb3, hl, hl2, hx, hz, hq2, dw2]; rfl⟩
      · obtain ⟨o, ρ', w1, w2⟩ := last r5 r6 h5 h6
        refine ⟨o, ρ', w1, ?_⟩
        rw [← w2]
        by_cases hb1 : cell % 4 < 2
        · have hb2 : B = [] := by
            by_cases z : B = []
            · exact z
            · exact absurd ⟨hb1, z⟩ hb
          subst hb2
          refine evSs_step ?_
          simp [evSs_cons, evS_for, ev_comp, rho0, entOf, isiD, tyN, tyL, isiB, b1D, lenD, cmpD, eqOk, eqD, eqL, D.dep, D.depL, iterD, itemsD, lockE, unlockE, idxD, slD, binD, addD, subD, mulD, divD, modD, negD, hb1]
        · refine evSs_step ?_
          simp [evSs_cons, evS_for, ev_comp, rho0, entOf, isiD, tyN, tyL, isiB, b1D, lenD, cmpD, eqOk, eqD, eqL, D.dep, D.depL, iterD, itemsD, lockE, unlockE, idxD, slD, binD, addD, subD, mulD, divD, modD, negD, hb1]
    -- the opening part
    by_cases ha : (cell % 4 = 0 ∧ (ops.length : Int) < m) ∧ A ≠ []
    · obtain ⟨⟨ha1, ha2⟩, ha3⟩ := ha
      have ha4 : (A == []) = false := by simpa using ha3
      obtain ⟨ch, hm, hx⟩ := ix_mem (cell / 256) ha3
      have hl : (0 : Int) < A.length := by
        have : A.length ≠ 0 := fun z => ha3 (List.length_eq_zero_iff.mp z)
        omega
      have hl2 : 0 < A.length := by omega
      cases ops with
      | nil =>
        exact ⟨some (.op r5 ch r6 r7), _, fun w z => by cases z; exact ⟨h5, hm, h6, h7⟩, by
          have ha5 : (0 : Int) < m := by simpa using ha2
          simp [evSs_cons, evS_for, ev_comp, rho0, entOf, isiD, tyN, tyL, isiB, b1D, lenD, cmpD, eqOk, eqD, eqL, D.dep, D.depL, iterD, itemsD, lockE, unlockE, idxD, slD, binD, addD, subD, mulD, divD, modD, negD, optD, Wy.d, ha1, ha5, ha4, hl, hl2, hx]; rfl⟩
      | cons w0 ops =>
        obtain ⟨ok, iop⟩ := ho w0 List.mem_cons_self
        have dw := depW (w0 :: ops)
        cases w0 with
        | op r0 s0 q0 k0 =>
          obtain ⟨g1, g2, g3, g4⟩ := ok
          have c1 : cutD [D.str sOpen, D.int r0, D.str [s0], D.int q0, D.int k0] none (some 3) = [D.str sOpen, D.int r0, D.str [s0]] := rfl
          have ha5 : (ops.length : Int) + 1 < m := by simpa using ha2
          have dw2 : D.depL (ops.map Wy.d) ≤ 1 := depW ops
          have dw3 : max 1 (D.depL (ops.map Wy.d)) + 1 ≤ 64 := by omega
          by_cases t0 : cell / 1024 % 3 = 0
          · exact ⟨some (.op r0 s0 r6 r7), _, fun w z => by cases z; exact ⟨g1, g2, h6, h7⟩, by
              simp [evSs_cons, evS_for, ev_comp, rho0, entOf, isiD, tyN, tyL, isiB, b1D, lenD, cmpD, eqOk, eqD, eqL, D.dep, D.depL, iterD, itemsD, lockE, unlockE, idxD, slD, binD, addD, subD, mulD, divD, modD, negD, optD, Wy.d, ha1, ha5, ha4, t0, dw3, c1, szl]; rfl⟩
          · have t0' : (cell / 1024 % 3 == 0) = false := by rw [beq_eq_false_iff_ne]; exact t0
            by_cases t1 : cell / 1024 % 3 = 1
            · have e9 : (n : Int) - 1 - (r0 : Int) = ((n - 1 - r0 : Nat) : Int) := by omega
              exact ⟨some (.op (n - 1 - r0) s0 r6 r7), _, fun w z => by cases z; exact ⟨by omega, g2, h6, h7⟩, by
                simp [evSs_cons, evS_for, ev_comp, rho0, entOf, isiD, tyN, tyL, isiB, b1D, lenD, cmpD, eqOk, eqD, eqL, D.dep, D.depL, iterD, itemsD, lockE, unlockE, idxD, slD, binD, addD, subD, mulD, divD, modD, negD, optD, Wy.d, ha1, ha5, ha4, t0', t1, dw3, e9]; rfl⟩
            · have t1' : (cell / 1024 % 3 == 1) = false := by rw [beq_eq_false_iff_ne]; exact t1
              exact ⟨some (.op r5 ch r6 r7), _, fun w z => by cases z; exact ⟨h5, hm, h6, h7⟩, by
                simp [evSs_cons, evS_for, ev_comp, rho0, entOf, isiD, tyN, tyL, isiB, b1D, lenD, cmpD, eqOk, eqD, eqL, D.dep, D.depL, iterD, itemsD, lockE, unlockE, idxD, slD, binD, addD, subD, mulD, divD, modD, negD, optD, Wy.d, ha1, ha5, ha4, t0', t1', dw3, hl, hl2, hx]; rfl⟩
        | _ => cases iop
    · obtain ⟨o, ρ', w1, w2⟩ := clo
      refine ⟨o, ρ', w1, ?_⟩
      rw [← w2]
      refine evSs_step ?_
      by_cases ha1 : cell % 4 = 0
      · by_cases ha2 : (ops.length : Int) < m
        · have ha3 : A = [] := by
            by_cases z : A = []
            · exact z
            · exact absurd ⟨⟨ha1, ha2⟩, z⟩ ha
          subst ha3
          simp [evSs_cons, evS_for, ev_comp, rho0, entOf, isiD, tyN, tyL, isiB, b1D, lenD, cmpD, eqOk, eqD, eqL, D.dep, D.depL, iterD, itemsD, lockE, unlockE, idxD, slD, binD, addD, subD, mulD, divD, modD, negD, ha1, ha2]
        · simp [evSs_cons, evS_for, ev_comp, rho0, entOf, isiD, tyN, tyL, isiB, b1D, lenD, cmpD, eqOk, eqD, eqL, D.dep, D.depL, iterD, itemsD, lockE, unlockE, idxD, slD, binD, addD, subD, mulD, divD, modD, negD, ha1, ha2]
      · have ha1' : (cell % 4 == 0) = false := by rw [beq_eq_false_iff_ne]; exact ha1
        simp [evSs_cons, evS_for, ev_comp, rho0, entOf, isiD, tyN, tyL, isiB, b1D, lenD, cmpD, eqOk, eqD, eqL, D.dep, D.depL, iterD, itemsD, lockE, unlockE, idxD, slD, binD, addD, subD, mulD, divD, modD, negD, ha1']
  obtain ⟨o, ρ', w1, w2⟩ := key
  refine ⟨o, w1, ?_⟩
  rw [F__law_way_by]
  refine run_ret (ρ' := ρ') ?_ rfl
  rw [hr]
  have e : m__law_way_by = m__law_way_by.take 3 ++ m__law_way_by.drop 3 := (List.take_append_drop _ _).symm
  rw [← w2]
  show evSs 0 (_ :: _ :: _ :: m__law_way_by.drop 3) _ = _
  rw [evSs_step s1, evSs_step s2, evSs_step s3]
end PG

namespace PG
open NV PySem.W
/-! ### parts by a script -/
def partsD (S : Sg) (n : Nat) (st en : List Nat) (ws : List Wy) : D := .tup [sgT S, .int n, .lst (dn st), .lst (dn en), .lst (ws.map Wy.d)]
theorem flat_filter (p : Nat → Bool) : ∀ l : List Nat, l.flatMap (fun k => if p k then [D.int k] else []) = dn (l.filter p)
  | [] => rfl
  | x :: l => by
    rw [List.flatMap_cons, flat_filter p l, List.filter_cons]
    cases p x <;> rfl
@[simp] theorem ixD4 {α : Type} (x y z w v : α) (l : List α) : ixD (x :: y :: z :: w :: v :: l) 4 = some v := rfl
theorem made_eq {S : Sg} {n : Nat} {st en : List Nat} {ws : List Wy} (h : MOk S n st en ws) : E__law_made.F [partsD S n st en ws] = .ok (mach S n st en ws, []) := by
  have i := init_eq h
  rw [F__law_made]
  unfold runF m__law_made partsD
  unfold mach at i ⊢
  simp [evSs_cons, evS_for, ev_comp, rho0, entOf, isiD, tyN, tyL, isiB, b1D, lenD, cmpD, eqOk, eqD, eqL, D.dep, D.depL, iterD, itemsD, lockE, unlockE, idxD, slD, binD, addD, subD, mulD, divD, modD, negD, i]
theorem ops_flat : ∀ l : List Wy, (l.map Wy.d).flatMap (fun d => match d with | .tup (.str s :: _) => if s = sOpen then [d] else [] | _ => []) = (l.filter isOp).map Wy.d
  | [] => rfl
  | w :: l => by
    rw [List.map_cons, List.flatMap_cons, ops_flat l, List.filter_cons]
    cases w <;> simp [Wy.d, isOp]
theorem parts_by_ex (ns : List Int) (at_ : Nat) {S : Sg} {most : Nat} (h1 : 1 ≤ most) (h4 : most ≤ 4) : ∃ (n : Nat) (st en : List Nat) (ws : List Wy), 1 ≤ n ∧ n ≤ most ∧ (∀ x ∈ st, x < n) ∧ (∀ x ∈ en, x < n) ∧ st.Nodup ∧ en.Nodup ∧ (∀ w ∈ ws, WyOk S n w) ∧ ws.length ≤ 10 ∧
    E__law_parts_by.F [.scr ns, .int at_, sgT S, .int most] = .ok (partsD S n st en ws, []) := by
  obtain ⟨r, hr, er⟩ := modN (ns.getD at_ 0) h1
  have hm0 : (0 : Int) < (most : Int) := by omega
  have hm1 : 0 < most := by omega
  have c0 := cell_at_eq ns at_
  have c1 : E__law_cell_at.F [.scr ns, .int ((at_ : Int) + 1)] = .ok (.int (ns.getD (at_ + 1) 0), []) := by
    have := cell_at_eq ns (at_ + 1)
    rwa [show (((at_ + 1 : Nat)) : Int) = (at_ : Int) + 1 by omega] at this
  obtain ⟨n, hn⟩ : ∃ n : Nat, n = 1 + r := ⟨_, rfl⟩
  obtain ⟨P, hPd⟩ : ∃ P : Nat → Bool, ∀ k : Nat, P k = decide (0 < ns.getD (at_ + 1) 0 / (4 * (k : Int) + 1) % 3) := ⟨_, fun _ => rfl⟩
  obtain ⟨Qp, hQd⟩ : ∃ P : Nat → Bool, ∀ k : Nat, P k = decide (ns.getD (at_ + 1) 0 / (5 * (k : Int) + 7) % 2 = 0) := ⟨_, fun _ => rfl⟩
  obtain ⟨st, hst⟩ : ∃ st, st = (List.range n).filter P := ⟨_, rfl⟩
  obtain ⟨en, hen⟩ : ∃ en, en = (List.range n).filter Qp := ⟨_, rfl⟩
  have hn4 : n ≤ 4 := by omega
  have rg : (rngD 0 n) = (List.range n).map fun k : Nat => D.int k := by
    unfold rngD
    refine List.map_congr_left fun k _ => ?_
    simp
  have zr : (rngD 0 n).length ≤ szl := by unfold rngD szl; rw [List.length_map, List.length_range]; omega
  have z0 : (n : Int).natAbs ≤ 16777216 := by omega
  have z0' : n ≤ 16777216 := by omega
  -- the statements
  have hN : ((n : Int)).toNat = n := by omega
  have s4 : evS 0 (.asg (.nm 4) (.bin .add (.cst (.int 1)) (.bin .mod (.call E__law_cell_at [(.var 0), (.var 1)]) (.var 3)))) [.im (.scr ns), .im (.int at_), .im (sgT S), .im (.int most), .un, .un, .un, .un, .un, .un, .un, .un, .un] = .ok (.nx, [.im (.scr ns), .im (.int at_), .im (sgT S), .im (.int most), .im (.int n), .un, .un, .un, .un, .un, .un, .un, .un]) := by
    have e9 : (1 : Int) + (r : Int) = (n : Int) := by omega
    generalize ns.getD at_ 0 = g at c0 er
    simp [c0, binD, modD, addD, hm0, hm1, er, e9]
  obtain ⟨mk, hmk⟩ : ∃ mk : Int, ixD [D.int 4, D.int 2, D.int 1, D.int 1] ((n : Int) - 1) = some (.int mk) := by
    have : r = 0 ∨ r = 1 ∨ r = 2 ∨ r = 3 := by omega
    have e9 : (n : Int) - 1 = (r : Int) := by omega
    rw [e9]
    rcases this with rfl | rfl | rfl | rfl
    · exact ⟨4, rfl⟩
    · exact ⟨2, rfl⟩
    · exact ⟨1, rfl⟩
    · exact ⟨1, rfl⟩
  have s5 : evS 0 (.asg (.nm 5) (.idx (.lst [(.cst (.int 4)), (.cst (.int 2)), (.cst (.int 1)), (.cst (.int 1))]) (.bin .sub (.var 4) (.cst (.int 1))))) [.im (.scr ns), .im (.int at_), .im (sgT S), .im (.int most), .im (.int n), .un, .un, .un, .un, .un, .un, .un, .un] = .ok (.nx, [.im (.scr ns), .im (.int at_), .im (sgT S), .im (.int most), .im (.int n), .im (.int mk), .un, .un, .un, .un, .un, .un, .un]) := by
    simp [binD, subD, idxD, hmk]
  have f1 := compLoop_flat (elt := ev (.var 12)) (ifs := evIfs [(.cmp .gt (.bin .mod (.bin .div (.call E__law_cell_at [(.var 0), (.bin .add (.var 1) (.cst (.int 1)))]) (.bin .add (.bin .mul (.cst (.int 4)) (.var 12)) (.cst (.int 1)))) (.cst (.int 3))) (.cst (.int 0)))]) (tg := .nm 12) (own := [12]) (ρ := [.im (.scr ns), .im (.int at_), .im (sgT S), .im (.int most), .im (.int n), .im (.int mk), .un, .un, .un, .un, .un, .un, .un])
    (f := fun d => match d with | .int k => if P k.toNat then [d] else [] | _ => []) (items := rngD 0 n) (fun d hd => by
      rw [rg] at hd
      obtain ⟨k, hk, rfl⟩ := List.mem_map.mp hd
      have hk := List.mem_range.mp hk
      have d1 : (0 : Int) < 4 * (k : Int) + 1 ∧ 4 * (k : Int) + 1 < 1073741824 := by omega
      have hP := hPd k
      generalize ns.getD (at_ + 1) 0 = g at c1 hP
      have tk : (k : Int).toNat = k := by omega
      dsimp only
      rw [tk, hP]
      cases hq : decide (0 < g / (4 * (k : Int) + 1) % 3) <;> simp [compStep, c1, binD, mulD, addD, divD, modD, d1, cmpD, hq, wiped])
  have g1 : (rngD 0 n).flatMap (fun d => match d with | .int k => if P k.toNat then [d] else [] | _ => []) = dn st := by
    rw [rg, List.flatMap_map, hst]
    exact flat_filter P _
  rw [g1] at f1
  have s6 : evS 0 (.asg (.nm 6) (.comp (.var 12) (.nm 12) .rng1 [(.var 4)] [(.cmp .gt (.bin .mod (.bin .div (.call E__law_cell_at [(.var 0), (.bin .add (.var 1) (.cst (.int 1)))]) (.bin .add (.bin .mul (.cst (.int 4)) (.var 12)) (.cst (.int 1)))) (.cst (.int 3))) (.cst (.int 0)))] [12])) [.im (.scr ns), .im (.int at_), .im (sgT S), .im (.int most), .im (.int n), .im (.int mk), .un, .un, .un, .un, .un, .un, .un] = .ok (.nx, [.im (.scr ns), .im (.int at_), .im (sgT S), .im (.int most), .im (.int n), .im (.int mk), .im (.lst (dn st)), .un, .un, .un, .un, .un, .un]) := by
    rw [evS_asg, ev_comp]
    simp [iterD, z0, z0', zr, lockE, unlockE, -evIfs_one]
    simp [f1, hN, -evIfs_one]
  have f2 := compLoop_flat (elt := ev (.var 12)) (ifs := evIfs [(.cmp .eq (.bin .mod (.bin .div (.call E__law_cell_at [(.var 0), (.bin .add (.var 1) (.cst (.int 1)))]) (.bin .add (.bin .mul (.cst (.int 5)) (.var 12)) (.cst (.int 7)))) (.cst (.int 2))) (.cst (.int 0)))]) (tg := .nm 12) (own := [12]) (ρ := [.im (.scr ns), .im (.int at_), .im (sgT S), .im (.int most), .im (.int n), .im (.int mk), .im (.lst (dn st)), .un, .un, .un, .un, .un, .un])
    (f := fun d => match d with | .int k => if Qp k.toNat then [d] else [] | _ => []) (items := rngD 0 n) (fun d hd => by
      rw [rg] at hd
      obtain ⟨k, hk, rfl⟩ := List.mem_map.mp hd
      have hk := List.mem_range.mp hk
      have d1 : (0 : Int) < 5 * (k : Int) + 7 ∧ 5 * (k : Int) + 7 < 1073741824 := by omega
      have hP := hQd k
      generalize ns.getD (at_ + 1) 0 = g at c1 hP
      have tk : (k : Int).toNat = k := by omega
      dsimp only
      rw [tk, hP]
      by_cases hq : g / (5 * (k : Int) + 7) % 2 = 0
      · simp [compStep, c1, binD, mulD, addD, divD, modD, d1, cmpD, eqOk, eqD, D.dep, hq, wiped]
      · have hq2 : (g / (5 * (k : Int) + 7) % 2 == 0) = false := by rw [beq_eq_false_iff_ne]; exact hq
        have hq3 : decide (g / (5 * (k : Int) + 7) % 2 = 0) = false := decide_eq_false hq
        simp [compStep, c1, binD, mulD, addD, divD, modD, d1, cmpD, eqOk, eqD, D.dep, hq2, hq3, wiped])
  have g2 : (rngD 0 n).flatMap (fun d => match d with | .int k => if Qp k.toNat then [d] else [] | _ => []) = dn en := by
    rw [rg, List.flatMap_map, hen]
    exact flat_filter Qp _
  rw [g2] at f2
  have s7 : evS 0 (.asg (.nm 7) (.comp (.var 12) (.nm 12) .rng1 [(.var 4)] [(.cmp .eq (.bin .mod (.bin .div (.call E__law_cell_at [(.var 0), (.bin .add (.var 1) (.cst (.int 1)))]) (.bin .add (.bin .mul (.cst (.int 5)) (.var 12)) (.cst (.int 7)))) (.cst (.int 2))) (.cst (.int 0)))] [12])) [.im (.scr ns), .im (.int at_), .im (sgT S), .im (.int most), .im (.int n), .im (.int mk), .im (.lst (dn st)), .un, .un, .un, .un, .un, .un] = .ok (.nx, [.im (.scr ns), .im (.int at_), .im (sgT S), .im (.int most), .im (.int n), .im (.int mk), .im (.lst (dn st)), .im (.lst (dn en)), .un, .un, .un, .un, .un]) := by
    rw [evS_asg, ev_comp]
    simp [iterD, z0, z0', zr, lockE, unlockE, -evIfs_one]
    simp [f2, hN, -evIfs_one]
  have s8 : evS 0 (.asgF 8 (.lst [])) [.im (.scr ns), .im (.int at_), .im (sgT S), .im (.int most), .im (.int n), .im (.int mk), .im (.lst (dn st)), .im (.lst (dn en)), .un, .un, .un, .un, .un] = .ok (.nx, [.im (.scr ns), .im (.int at_), .im (sgT S), .im (.int most), .im (.int n), .im (.int mk), .im (.lst (dn st)), .im (.lst (dn en)), .ow (.lst []), .un, .un, .un, .un]) := rfl
  -- the loop
  obtain ⟨q, hq9, eq9⟩ := modN (ns.getD at_ 0 / 4) (n := 9) (by omega)
  have lp := for_inv (body := evSs 0 [.asg (.nm 10) (.comp (.var 11) (.nm 11) .seq [(.var 8)] [(.cmp .eq (.idx (.var 11) (.cst (.int 0))) (.cst (.str [111, 112, 101, 110])))] [11]), .asg (.nm 11) (.call E__law_way_by [(.call E__law_mixed [(.call E__law_cell_at [(.var 0), (.bin .add (.bin .add (.var 1) (.cst (.int 2))) (.var 9))]), (.var 9)]), (.var 2), (.var 4), (.var 10), (.var 5)]), .ite (.cmp .notn (.var 11) (.cst .non)) [.app 8 (.var 11)] []]) (tg := .nm 9)
    (fun i ρ => ∃ (ws : List Wy) (e9 e10 e11 : Ent), isUI e9 = true ∧ isUI e10 = true ∧ isUI e11 = true ∧ (∀ w ∈ ws, WyOk S n w) ∧ ws.length ≤ i ∧ ρ = [.im (.scr ns), .im (.int at_), .im (sgT S), .im (.int most), .im (.int n), .im (.int mk), .im (.lst (dn st)), .im (.lst (dn en)), .ow (.lst (ws.map Wy.d)), e9, e10, e11, .un])
    (rngD 0 (2 + q)) 0 [.im (.scr ns), .im (.int at_), .im (sgT S), .im (.int most), .im (.int n), .im (.int mk), .im (.lst (dn st)), .im (.lst (dn en)), .ow (.lst []), .un, .un, .un, .un] ⟨[], .un, .un, .un, rfl, rfl, rfl, (fun w h => by cases h), Nat.le_refl _, rfl⟩
    (fun j ρ d hd ⟨ws, e9, e10, e11, u9, u10, u11, hws, hl, e⟩ => by
      subst e
      have hj : j < 2 + q ∧ d = .int j := by
        unfold rngD at hd
        rw [List.getElem?_map] at hd
        cases z : (List.range (2 + q))[j]? with
        | none => rw [z] at hd; cases hd
        | some x =>
          rw [z] at hd
          obtain ⟨z1, z2⟩ := List.getElem?_eq_some_iff.mp z
          rw [List.length_range] at z1
          rw [List.getElem_range] at z2
          subst z2
          have : D.int ((0 : Int) + (j : Int)) = d := by simpa using hd
          exact ⟨z1, by rw [← this]; simp⟩
      obtain ⟨hj, rfl⟩ := hj
      have fl := compLoop_flat (elt := ev (.var 11)) (ifs := evIfs [(.cmp .eq (.idx (.var 11) (.cst (.int 0))) (.cst (.str [111, 112, 101, 110])))]) (tg := .nm 11) (own := [11]) (ρ := [.im (.scr ns), .im (.int at_), .im (sgT S), .im (.int most), .im (.int n), .im (.int mk), .im (.lst (dn st)), .im (.lst (dn en)), .br (.lst (ws.map Wy.d)), .im (.int j), e10, .un, .un])
        (f := fun d => match d with | .tup (.str s :: _) => if s = sOpen then [d] else [] | _ => []) (items := ws.map Wy.d) (fun d hd => by
          obtain ⟨w, hw, rfl⟩ := List.mem_map.mp hd
          cases w <;> simp [compStep, Wy.d, idxD, cmpD, eqOk, eqD, D.dep, wiped])
      rw [ops_flat] at fl
      have zw : ws.length ≤ szl := by unfold szl; omega
      have t1 : evS 0 (.asg (.nm 10) (.comp (.var 11) (.nm 11) .seq [(.var 8)] [(.cmp .eq (.idx (.var 11) (.cst (.int 0))) (.cst (.str [111, 112, 101, 110])))] [11])) [.im (.scr ns), .im (.int at_), .im (sgT S), .im (.int most), .im (.int n), .im (.int mk), .im (.lst (dn st)), .im (.lst (dn en)), .ow (.lst (ws.map Wy.d)), .im (.int j), e10, e11, .un] = .ok (.nx, [.im (.scr ns), .im (.int at_), .im (sgT S), .im (.int most), .im (.int n), .im (.int mk), .im (.lst (dn st)), .im (.lst (dn en)), .ow (.lst (ws.map Wy.d)), .im (.int j), .im (.lst ((ws.filter isOp).map Wy.d)), e11, .un]) := by
        rw [evS_asg, ev_comp]
        rcases isUI_or u10 with rfl | ⟨d10, rfl⟩ <;> rcases isUI_or u11 with rfl | ⟨d11, rfl⟩ <;> simp [iterD, itemsD, lockE, unlockE, zw, fl, -evIfs_one]
      have cj : E__law_cell_at.F [.scr ns, .int ((at_ : Int) + 2 + (j : Int))] = .ok (.int (ns.getD (at_ + 2 + j) 0), []) := by
        have := cell_at_eq ns (at_ + 2 + j)
        rwa [show (((at_ + 2 + j : Nat)) : Int) = (at_ : Int) + 2 + (j : Int) by omega] at this
      obtain ⟨o, ho, wb⟩ := way_by_ex (mixed (ns.getD (at_ + 2 + j) 0) j) (S := S) (n := n) (by omega) (ws.filter isOp) (fun w hw => by
        rw [List.mem_filter] at hw
        exact ⟨hws w hw.1, hw.2⟩) mk
      have mx := mixed_eq (ns.getD (at_ + 2 + j) 0) j
      have t2 : evS 0 (.asg (.nm 11) (.call E__law_way_by [(.call E__law_mixed [(.call E__law_cell_at [(.var 0), (.bin .add (.bin .add (.var 1) (.cst (.int 2))) (.var 9))]), (.var 9)]), (.var 2), (.var 4), (.var 10), (.var 5)])) [.im (.scr ns), .im (.int at_), .im (sgT S), .im (.int most), .im (.int n), .im (.int mk), .im (.lst (dn st)), .im (.lst (dn en)), .ow (.lst (ws.map Wy.d)), .im (.int j), .im (.lst ((ws.filter isOp).map Wy.d)), e11, .un] = .ok (.nx, [.im (.scr ns), .im (.int at_), .im (sgT S), .im (.int most), .im (.int n), .im (.int mk), .im (.lst (dn st)), .im (.lst (dn en)), .ow (.lst (ws.map Wy.d)), .im (.int j), .im (.lst ((ws.filter isOp).map Wy.d)), .im (optD o), .un]) := by
        generalize ns.getD (at_ + 2 + j) 0 = g at cj mx wb
        rcases isUI_or u11 with rfl | ⟨d11, rfl⟩ <;> simp [binD, addD, cj, mx, wb]
      refine ⟨[.im (.scr ns), .im (.int at_), .im (sgT S), .im (.int most), .im (.int n), .im (.int mk), .im (.lst (dn st)), .im (.lst (dn en)), .ow (.lst (ws.map Wy.d)), .im (.int j), e10, e11, .un], ?_⟩
      have hset : setT (.nm 9) (.int (j : Int)) [.im (.scr ns), .im (.int at_), .im (sgT S), .im (.int most), .im (.int n), .im (.int mk), .im (.lst (dn st)), .im (.lst (dn en)), .ow (.lst (ws.map Wy.d)), e9, e10, e11, .un] = some [.im (.scr ns), .im (.int at_), .im (sgT S), .im (.int most), .im (.int n), .im (.int mk), .im (.lst (dn st)), .im (.lst (dn en)), .ow (.lst (ws.map Wy.d)), .im (.int j), e10, e11, .un] := by
        rcases isUI_or u9 with rfl | ⟨d9, rfl⟩ <;> rfl
      cases o with
      | none =>
        refine ⟨_, hset, ?_, ws, .im (.int j), .im (.lst ((ws.filter isOp).map Wy.d)), .im .non, rfl, rfl, rfl, hws, by omega, rfl⟩
        rw [evSs_step t1, evSs_step t2]
        simp [evSs_cons, evS_for, ev_comp, rho0, entOf, isiD, tyN, tyL, isiB, b1D, lenD, cmpD, eqOk, eqD, eqL, D.dep, D.depL, iterD, itemsD, lockE, unlockE, idxD, slD, binD, addD, subD, mulD, divD, modD, negD, optD]
      | some w =>
        refine ⟨_, hset, ?_, ws ++ [w], .im (.int j), .im (.lst ((ws.filter isOp).map Wy.d)), .im w.d, rfl, rfl, rfl, ?_, ?_, rfl⟩
        · rw [evSs_step t1, evSs_step t2]
          have zl : ws.length < 16777215 := by omega
          cases w <;> simp [evSs_cons, evS_for, ev_comp, rho0, entOf, isiD, tyN, tyL, isiB, b1D, lenD, cmpD, eqOk, eqD, eqL, D.dep, D.depL, iterD, itemsD, lockE, unlockE, idxD, slD, binD, addD, subD, mulD, divD, modD, negD, optD, Wy.d, appW, zl]
        · intro v hv
          rcases List.mem_append.mp hv with hv | hv
          · exact hws v hv
          · rw [List.mem_singleton.mp hv]; exact ho w rfl
        · simp; omega)
  obtain ⟨ρ', lp1, ws, e9, e10, e11, u9, u10, u11, hws, hl, rfl⟩ := lp
  refine ⟨n, st, en, ws, by omega, by omega, fun x hx => List.mem_range.mp (List.mem_filter.mp (hst ▸ hx)).1, fun x hx => List.mem_range.mp (List.mem_filter.mp (hen ▸ hx)).1, hst ▸ List.nodup_range.sublist List.filter_sublist, hen ▸ List.nodup_range.sublist List.filter_sublist, hws, ?_, ?_⟩
  · unfold rngD at hl
    rw [List.length_map, List.length_range] at hl
    omega
  · rw [F__law_parts_by]
    have hr0 : rho0 [.im, .im, .im, .im] [.scr ns, .int at_, sgT S, .int most] 13 = [.im (.scr ns), .im (.int at_), .im (sgT S), .im (.int most), .un, .un, .un, .un, .un, .un, .un, .un, .un] := rfl
    unfold runF m__law_parts_by
    rw [hr0, evSs_step s4, evSs_step s5, evSs_step s6, evSs_step s7, evSs_step s8]
    have hcount : iterD .rng1 [.int (2 + (q : Int))] = some (rngD 0 (2 + q)) := by
      have a1 : (2 + (q : Int)).natAbs ≤ 16777216 := by omega
      have a2 : (2 + (q : Int)).toNat = 2 + q := by omega
      simp [iterD, a1, a2]
    have s9 : evS 0 (.for (.nm 9) .rng1 [(.bin .add (.cst (.int 2)) (.bin .mod (.bin .div (.call E__law_cell_at [(.var 0), (.var 1)]) (.cst (.int 4))) (.cst (.int 9))))] [.asg (.nm 10) (.comp (.var 11) (.nm 11) .seq [(.var 8)] [(.cmp .eq (.idx (.var 11) (.cst (.int 0))) (.cst (.str [111, 112, 101, 110])))] [11]), .asg (.nm 11) (.call E__law_way_by [(.call E__law_mixed [(.call E__law_cell_at [(.var 0), (.bin .add (.bin .add (.var 1) (.cst (.int 2))) (.var 9))]), (.var 9)]), (.var 2), (.var 4), (.var 10), (.var 5)]), .ite (.cmp .notn (.var 11) (.cst .non)) [.app 8 (.var 11)] []]) [.im (.scr ns), .im (.int at_), .im (sgT S), .im (.int most), .im (.int n), .im (.int mk), .im (.lst (dn st)), .im (.lst (dn en)), .ow (.lst []), .un, .un, .un, .un] =
        .ok (.nx, [.im (.scr ns), .im (.int at_), .im (sgT S), .im (.int most), .im (.int n), .im (.int mk), .im (.lst (dn st)), .im (.lst (dn en)), .ow (.lst (ws.map Wy.d)), e9, e10, e11, .un]) := by
      rw [evS_for]
      have eq9' : ns.getD at_ 0 / 4 % 9 = (q : Int) := eq9
      generalize ns.getD at_ 0 = g at c0 eq9'
      have p1 : pres [(.bin .add (.cst (.int 2)) (.bin .mod (.bin .div (.call E__law_cell_at [(.var 0), (.var 1)]) (.cst (.int 4))) (.cst (.int 9))))] [.im (.scr ns), .im (.int at_), .im (sgT S), .im (.int most), .im (.int n), .im (.int mk), .im (.lst (dn st)), .im (.lst (dn en)), .ow (.lst []), .un, .un, .un, .un] = .ok ([some (.int (2 + (q : Int)))], [.im (.scr ns), .im (.int at_), .im (sgT S), .im (.int most), .im (.int n), .im (.int mk), .im (.lst (dn st)), .im (.lst (dn en)), .ow (.lst []), .un, .un, .un, .un]) := by
        simp [c0, binD, addD, divD, modD, eq9']
      rw [p1]
      simp only [Out.bind_ok, finL_cons, finL_nil, fin_bin, Option.bind_some]
      rw [hcount]
      dsimp only
      have lk : ∀ ρ : Rho, lockE [(.bin .add (.cst (.int 2)) (.bin .mod (.bin .div (.call E__law_cell_at [(.var 0), (.var 1)]) (.cst (.int 4))) (.cst (.int 9))))] ρ = ρ := fun ρ => rfl
      rw [lk, lp1]
      rfl
    rw [evSs_step s9]
    simp [evSs_cons, evS_for, ev_comp, rho0, entOf, isiD, tyN, tyL, isiB, b1D, lenD, cmpD, eqOk, eqD, eqL, D.dep, D.depL, iterD, itemsD, lockE, unlockE, idxD, slD, binD, addD, subD, mulD, divD, modD, negD, partsD]
end PG

namespace NV
theorem comp_ok {elt : ME} {tg : Tg} {k : IK} {args ifs : List ME} {own : List Nat} {ρ ρ1 ρ2 ρ3 ρ4 : Rho} {os : List (Option D)} {items out : List D} (h1 : pres args ρ = .ok (os, ρ1)) (h2 : (finL args os ρ1).bind (iterD k) = some items) (h3 : items.length ≤ szl)
    (h4 : wipeE own (lockE args ρ1) = some ρ2) (h5 : compLoop (ev elt) (evIfs ifs) tg own items ρ2 = .ok (out, ρ3)) (h6 : unlockE ρ1 args (backE ρ1 own ρ3) = ρ4) : ev (.comp elt tg k args ifs own) ρ = .ok (.lst out, ρ4) := by
  rw [ev_comp, h1]
  simp only [Out.bind_ok]
  rw [h2]
  dsimp only
  rw [if_pos h3, h4]
  dsimp only
  rw [h5]
  simp only [noexc_ok, Out.bind_ok]
  rw [h6]
theorem for_ok {n : Nat} {tg : Tg} {k : IK} {args : List ME} {body : List MS} {ρ ρ1 ρ2 ρ3 ρ4 : Rho} {os : List (Option D)} {items : List D} {f : Fl} (h1 : pres args ρ = .ok (os, ρ1)) (h2 : (finL args os ρ1).bind (iterD k) = some items)
    (h3 : lockE args ρ1 = ρ2) (h4 : forLoop (evSs n body) tg items ρ2 = .ok (f, ρ3)) (h5 : unlockE ρ1 args ρ3 = ρ4) : evS n (.for tg k args body) ρ = .ok (f, ρ4) := by
  rw [evS_for, h1]
  simp only [Out.bind_ok]
  rw [h2]
  dsimp only
  rw [h3, h4]
  show Out.ok (f, unlockE ρ1 args ρ3) = _
  rw [h5]
theorem setT_nm_un {i : Nat} {d : D} {ρ : Rho} {e : Ent} (h : ρ[i]? = some e) (u : isUI e = true) : setT (.nm i) d ρ = some (ρ.set i (.im d)) := by
  rw [setT_nm, setE_eq, h]
  rcases isUI_or u with rfl | ⟨d', rfl⟩ <;> rfl
theorem rng_get {n j : Nat} {d : D} (h : (rngD 0 n)[j]? = some d) : j < n ∧ d = .int j := by
  unfold rngD at h
  rw [List.getElem?_map] at h
  cases z : (List.range n)[j]? with
  | none => rw [z] at h; cases h
  | some x =>
    rw [z] at h
    obtain ⟨z1, z2⟩ := List.getElem?_eq_some_iff.mp z
    rw [List.length_range] at z1
    rw [List.getElem_range] at z2
    subst z2
    have : D.int ((0 : Int) + (j : Int)) = d := by simpa using h
    exact ⟨z1, by rw [← this]; simp⟩
theorem rng_len (n : Nat) : (rngD 0 n).length = n := by unfold rngD; rw [List.length_map, List.length_range]
theorem iter_rng {n : Nat} (h : n ≤ 16777216) : iterD .rng1 [.int n] = some (rngD 0 n) := by
  have a1 : (n : Int).natAbs ≤ 16777216 := by omega
  have a2 : ((n : Int)).toNat = n := by omega
  simp only [iterD, a1, if_true, a2]
end NV


namespace K4
open PySem PySem.Spec PyProof.Rows L2 L2H NV
def top (i : Nat) : Stmt := PySem.Challenge.pw_nestwords_k04_plain_or_not.main.body.getD i (.Pass ⟨0, 0, 0, 0⟩)
structure Txt (K : PySem.W.Frag) (mg : Str → Option Value) : Prop where
  bas : Bas K mg
  c_LETTERS : ∃ t, mg "LETTERS" = some (.str "abcdefghijklmnopqrstuvwxyz" t)
  c_MOST_SIGNS : ∃ t, mg "MOST_SIGNS" = some (.int 4 t)
  c_MOST_ROOMS : ∃ t, mg "MOST_ROOMS" = some (.int 40 t)
  c_MOST_WAYS : ∃ t, mg "MOST_WAYS" = some (.int 4000 t)
  x_BadMachine : ExcG K mg "BadMachine"
  x_BadSigns : ExcG K mg "BadSigns"
  z_max : mg "max" = none
  z_sorted : mg "sorted" = none
section
variable {P : Program} {w : World} {K : PySem.W.Frag} {mg : Str → Option Value} {base : Heap} {C : Nat → Addr} {CN : Addr}

abbrev s_are_letters : Stmt := top 7
abbrev N_are_letters : List Str := ["thing", "sign"]
theorem sc_are_letters : FnScope N_are_letters ["thing"] (defScope s_are_letters) := ⟨rfl, rfl, rfl, by decide +kernel, rfl, by decide +kernel, by decide +kernel⟩
theorem g_are_letters (T : Txt K mg) {f : Addr} {fd : FuncData} (F : L2.Fun K "are_letters" "are_letters" s_are_letters f fd) (hm : mg "are_letters" = some (.ref f)) (hb : Binds K fd ["thing"] []) : FnG P w K mg base 1 "are_letters" PG.E_are_letters :=
  fn_g (k := 0) T.bas F hm hb sc_are_letters rfl fun cdv A outer s H E hr O =>
  (ss_cons (ss_if (g_or (g_l1 (s_not (g_isi O (t := "str") (g_v (i := 0)) O.blt.str)) (g_l1 (g_cmp O .gt (g_len O (g_v (i := 0))) (g_gi T.c_MOST_SIGNS)) .nil))) (ss_cons (ss_ret g_bl)
  ss_nil) ss_nil)
  (ss_cons (ss_ret (g_all O (g_val (g_comp [("sign", 1)] O (g_seq (g_v (i := 0))) (fun _ _ _ _ _ => (g_t O.nd (i := 1))) (fun _ _ _ _ _ _ => g_if0) (fun _ _ _ _ _ O1 => (g_cmp O1 .isin (g_v (i := 1)) (g_gs T.c_LETTERS)))))))
  ss_nil))

abbrev s_is_signs : Stmt := top 8
abbrev N_is_signs : List Str := ["thing", "every", "part"]
theorem sc_is_signs : FnScope N_is_signs ["thing"] (defScope s_is_signs) := ⟨rfl, rfl, rfl, by decide +kernel, rfl, by decide +kernel, by decide +kernel⟩
theorem g_is_signs (T : Txt K mg) (G_are_letters : FnG P w K mg base 1 "are_letters" PG.E_are_letters) {f : Addr} {fd : FuncData} (F : L2.Fun K "is_signs" "is_signs" s_is_signs f fd) (hm : mg "is_signs" = some (.ref f)) (hb : Binds K fd ["thing"] []) : FnG P w K mg base 2 "is_signs" PG.E_is_signs :=
  fn_g (k := 1) T.bas F hm hb sc_is_signs rfl fun cdv A outer s H E hr O =>
  (ss_cons (ss_if (g_or (g_l1 (s_not (g_isi O (t := "tuple") (g_v (i := 0)) O.blt.tuple)) (g_l1 (g_cmp O .ne (g_len O (g_v (i := 0))) g_int) (g_l1 (s_not (g_all O (g_val (g_comp [("part", 2)] O (g_seq (g_v (i := 0))) (fun _ _ _ _ _ => (g_t O.nd (i := 2))) (fun _ _ _ _ _ _ => g_if0) (fun _ _ _ _ _ O1 => (g_call O1 (G_are_letters.at hr (by decide)) (g_ai (g_v (i := 2)) sa_nil))))))) .nil)))) (ss_cons (ss_ret g_bl)
  ss_nil) ss_nil)
  (ss_cons (g_asg (g_op .add (g_op .add (g_idx O (g_v (i := 0)) g_int) (g_idx O (g_v (i := 0)) g_int)) (g_idx O (g_v (i := 0)) g_int)) (g_t O.nd (i := 1)))
  (ss_cons (ss_ret (g_cmp O .eq (g_lenset O (g_v (i := 1))) (g_len O (g_v (i := 1)))))
  ss_nil)))

abbrev s_need_signs : Stmt := top 9
abbrev N_need_signs : List Str := ["signs"]
theorem sc_need_signs : FnScope N_need_signs ["signs"] (defScope s_need_signs) := ⟨rfl, rfl, rfl, by decide +kernel, rfl, by decide +kernel, by decide +kernel⟩
theorem g_need_signs (T : Txt K mg) (G_is_signs : FnG P w K mg base 2 "is_signs" PG.E_is_signs) {f : Addr} {fd : FuncData} (F : L2.Fun K "need_signs" "need_signs" s_need_signs f fd) (hm : mg "need_signs" = some (.ref f)) (hb : Binds K fd ["signs"] []) : FnG P w K mg base 3 "need_signs" PG.E_need_signs :=
  fn_g (k := 2) T.bas F hm hb sc_need_signs rfl fun cdv A outer s H E hr O =>
  (ss_cons (ss_if (s_not (g_call O (G_is_signs.at hr (by decide)) (g_ai (g_v (i := 0)) sa_nil))) (ss_cons (g_rai O T.x_BadSigns.at)
  ss_nil) ss_nil)
  ss_nil)

abbrev s_kind_of : Stmt := top 10
abbrev N_kind_of : List Str := ["signs", "thing", "word", "part"]
theorem sc_kind_of : FnScope N_kind_of ["signs", "thing"] (defScope s_kind_of) := ⟨rfl, rfl, rfl, by decide +kernel, rfl, by decide +kernel, by decide +kernel⟩
theorem g_kind_of (T : Txt K mg) {f : Addr} {fd : FuncData} (F : L2.Fun K "kind_of" "kind_of" s_kind_of f fd) (hm : mg "kind_of" = some (.ref f)) (hb : Binds K fd ["signs", "thing"] []) : FnG P w K mg base 1 "kind_of" PG.E_kind_of :=
  fn_g (k := 0) T.bas F hm hb sc_kind_of rfl fun cdv A outer s H E hr O =>
  (ss_cons (ss_if (g_or (g_l1 (s_not (g_isi O (t := "str") (g_v (i := 1)) O.blt.str)) (g_l1 (g_cmp O .ne (g_len O (g_v (i := 1))) g_int) .nil))) (ss_cons (ss_ret g_str)
  ss_nil) ss_nil)
  (ss_cons (g_for O (passes_of rfl) (g_zip O (g_tup (g_l1 g_str (g_l1 g_str (g_l1 g_str .nil)))) (g_v (i := 0))) (g_tt (g_t1 O.nd (i := 2) (g_t1 O.nd (i := 3) g_t0))) (ss_cons (ss_if (g_cmp O .isin (g_v (i := 1)) (g_v (i := 3))) (ss_cons (ss_ret (g_v (i := 2)))
  ss_nil) ss_nil)
  ss_nil))
  (ss_cons (ss_ret g_str)
  ss_nil)))

abbrev s_is_room : Stmt := top 14
abbrev N_is_room : List Str := ["thing", "rooms"]
theorem sc_is_room : FnScope N_is_room ["thing", "rooms"] (defScope s_is_room) := ⟨rfl, rfl, rfl, by decide +kernel, rfl, by decide +kernel, by decide +kernel⟩
theorem g_is_room (T : Txt K mg) {f : Addr} {fd : FuncData} (F : L2.Fun K "is_room" "is_room" s_is_room f fd) (hm : mg "is_room" = some (.ref f)) (hb : Binds K fd ["thing", "rooms"] []) : FnG P w K mg base 1 "is_room" PG.E_is_room :=
  fn_g (k := 0) T.bas F hm hb sc_is_room rfl fun cdv A outer s H E hr O =>
  (ss_cons (ss_ret (g_and (g_l1 (g_isi O (t := "int") (g_v (i := 0)) O.blt.int) (g_l1 (s_not (g_isi O (t := "bool") (g_v (i := 0)) O.blt.bool)) (g_l1 (g_chn O .le .lt g_int (g_v (i := 0)) (g_v (i := 1))) .nil)))))
  ss_nil)

abbrev s_are_rooms : Stmt := top 15
abbrev N_are_rooms : List Str := ["thing", "rooms", "room"]
theorem sc_are_rooms : FnScope N_are_rooms ["thing", "rooms"] (defScope s_are_rooms) := ⟨rfl, rfl, rfl, by decide +kernel, rfl, by decide +kernel, by decide +kernel⟩
theorem g_are_rooms (T : Txt K mg) (G_is_room : FnG P w K mg base 1 "is_room" PG.E_is_room) {f : Addr} {fd : FuncData} (F : L2.Fun K "are_rooms" "are_rooms" s_are_rooms f fd) (hm : mg "are_rooms" = some (.ref f)) (hb : Binds K fd ["thing", "rooms"] []) : FnG P w K mg base 2 "are_rooms" PG.E_are_rooms :=
  fn_g (k := 1) T.bas F hm hb sc_are_rooms rfl fun cdv A outer s H E hr O =>
  (ss_cons (ss_if (g_or (g_l1 (s_not (g_isi O (t := "list") (g_v (i := 0)) O.blt.list)) (g_l1 (s_not (g_all O (g_val (g_comp [("room", 2)] O (g_seq (g_v (i := 0))) (fun _ _ _ _ _ => (g_t O.nd (i := 2))) (fun _ _ _ _ _ _ => g_if0) (fun _ _ _ _ _ O1 => (g_call O1 (G_is_room.at hr (by decide)) (g_ai (g_v (i := 2)) (g_ai (g_v (i := 1)) sa_nil)))))))) .nil))) (ss_cons (ss_ret g_bl)
  ss_nil) ss_nil)
  (ss_cons (ss_ret (g_cmp O .eq (g_lenset O (g_v (i := 0))) (g_len O (g_v (i := 0)))))
  ss_nil))

abbrev s_is_way : Stmt := top 16
abbrev N_is_way : List Str := ["thing", "signs", "rooms", "at", "room"]
theorem sc_is_way : FnScope N_is_way ["thing", "signs", "rooms"] (defScope s_is_way) := ⟨rfl, rfl, rfl, by decide +kernel, rfl, by decide +kernel, by decide +kernel⟩
theorem g_is_way (T : Txt K mg) (G_is_room : FnG P w K mg base 1 "is_room" PG.E_is_room) (G_kind_of : FnG P w K mg base 1 "kind_of" PG.E_kind_of) {f : Addr} {fd : FuncData} (F : L2.Fun K "is_way" "is_way" s_is_way f fd) (hm : mg "is_way" = some (.ref f)) (hb : Binds K fd ["thing", "signs", "rooms"] []) : FnG P w K mg base 2 "is_way" PG.E_is_way :=
  fn_g (k := 1) T.bas F hm hb sc_is_way rfl fun cdv A outer s H E hr O =>
  (ss_cons (ss_if (g_or (g_l1 (s_not (g_isi O (t := "tuple") (g_v (i := 0)) O.blt.tuple)) (g_l1 (g_cmp O .lt (g_len O (g_v (i := 0))) g_int) (g_l1 (s_not (g_isi O (t := "str") (g_idx O (g_v (i := 0)) g_int) O.blt.str)) .nil)))) (ss_cons (ss_ret g_bl)
  ss_nil) ss_nil)
  (ss_cons (ss_if (g_cmp O .ne (g_len O (g_v (i := 0))) (g_dgetc O (ss := [[111, 110], [111, 112, 101, 110], [99, 108, 111, 115, 101]]) (is := [4, 5, 5]) (i0 := 0) (.cons (pe_strc [111, 110]) (pe_int) (.cons (pe_strc [111, 112, 101, 110]) (pe_int) (.cons (pe_strc [99, 108, 111, 115, 101]) (pe_int) .nil))) (g_idx O (g_v (i := 0)) g_int) pe_int)) (ss_cons (ss_ret g_bl)
  ss_nil) ss_nil)
  (ss_cons (g_asg (s_ife (g_cmp O .eq (g_idx O (g_v (i := 0)) g_int) g_str) g_int g_int) (g_t O.nd (i := 3)))
  (ss_cons (ss_if (g_cmp O .ne (g_call O (G_kind_of.at hr (by decide)) (g_ai (g_v (i := 1)) (g_ai (g_idx O (g_v (i := 0)) (g_v (i := 3))) sa_nil))) (g_idx O (g_v (i := 0)) g_int)) (ss_cons (ss_ret g_bl)
  ss_nil) ss_nil)
  (ss_cons (ss_ret (g_all O (g_val (g_comp [("room", 4)] O (g_seq (g_op .add (s_sl (g_v (i := 0)) (.some g_int) (.some (g_v (i := 3)))) (s_sl (g_v (i := 0)) (.some (g_op .add (g_v (i := 3)) g_int)) .none))) (fun _ _ _ _ _ => (g_t O.nd (i := 4))) (fun _ _ _ _ _ _ => g_if0) (fun _ _ _ _ _ O1 => (g_call O1 (G_is_room.at hr (by decide)) (g_ai (g_v (i := 4)) (g_ai (g_v (i := 2)) sa_nil))))))))
  ss_nil)))))

abbrev s_Machine___init__ : Stmt := inClass (top 17) 0
abbrev N_Machine___init__ : List Str := ["self", "signs", "rooms", "starts", "ends", "ways", "found", "way"]
theorem sc_Machine___init__ : FnScope N_Machine___init__ ["self", "signs", "rooms", "starts", "ends", "ways"] (defScope s_Machine___init__) := ⟨rfl, rfl, rfl, by decide +kernel, rfl, by decide +kernel, by decide +kernel⟩
theorem g_Machine___init__ (T : Txt K mg) {CM : Addr} (M : MachW K mg CM) (G_are_rooms : FnG P w K mg base 2 "are_rooms" PG.E_are_rooms) (G_is_room : FnG P w K mg base 1 "is_room" PG.E_is_room) (G_is_way : FnG P w K mg base 2 "is_way" PG.E_is_way) (G_need_signs : FnG P w K mg base 3 "need_signs" PG.E_need_signs) {f : Addr} {fd : FuncData} (F : L2.Fun K "__init__" "Machine.__init__" s_Machine___init__ f fd) (hm : Mk K CM f) (hb : Binds K fd ["self", "signs", "rooms", "starts", "ends", "ways"] []) : MakeG P w K mg base 4 "Machine" PG.E_Machine___init__ :=
  fn_gI (k := 3) T.bas F M.mg hm hb sc_Machine___init__ rfl fun cdv A outer s H E hr O =>
  (ss_cons (g_exp (g_call O (G_need_signs.at hr (by decide)) (g_ai (g_v (i := 1)) sa_nil)))
  (ss_cons (ss_if (g_or (g_l1 (s_not (g_call O (G_is_room.at hr (by decide)) (g_ai (g_v (i := 2)) (g_ai (g_op .add (g_gi T.c_MOST_ROOMS) g_int) sa_nil)))) (g_l1 (g_cmp O .lt (g_v (i := 2)) g_int) .nil))) (ss_cons (g_rai O T.x_BadMachine.at)
  ss_nil) ss_nil)
  (ss_cons (ss_if (g_or (g_l1 (s_not (g_call O (G_are_rooms.at hr (by decide)) (g_ai (g_v (i := 3)) (g_ai (g_v (i := 2)) sa_nil)))) (g_l1 (s_not (g_call O (G_are_rooms.at hr (by decide)) (g_ai (g_v (i := 4)) (g_ai (g_v (i := 2)) sa_nil)))) .nil))) (ss_cons (g_rai O T.x_BadMachine.at)
  ss_nil) ss_nil)
  (ss_cons (ss_if (g_or (g_l1 (s_not (g_isi O (t := "list") (g_v (i := 5)) O.blt.list)) (g_l1 (g_cmp O .gt (g_len O (g_v (i := 5))) (g_gi T.c_MOST_WAYS)) .nil))) (ss_cons (g_rai O T.x_BadMachine.at)
  ss_nil) ss_nil)
  (ss_cons (g_asgF s_emp (g_t O.nd (i := 6)))
  (ss_cons (g_for O (passes_of rfl) (g_seq (g_v (i := 5))) (g_t O.nd (i := 7)) (ss_cons (ss_if (s_not (g_call O (G_is_way.at hr (by decide)) (g_ai (g_v (i := 7)) (g_ai (g_v (i := 1)) (g_ai (g_v (i := 2)) sa_nil))))) (ss_cons (g_rai O T.x_BadMachine.at)
  ss_nil) ss_nil)
  (ss_cons (g_setK O (g_v (i := 6)) (g_v (i := 7)) g_bl)
  ss_nil)))
  (ss_cons (g_setA O "Machine" (j := 0) (g_v (i := 0)) (g_v (i := 1)))
  (ss_cons (g_setA O "Machine" (j := 1) (g_v (i := 0)) (g_v (i := 2)))
  (ss_cons (g_setA O "Machine" (j := 2) (g_v (i := 0)) (g_val (g_sorted O T.z_sorted (g_v (i := 3)))))
  (ss_cons (g_setA O "Machine" (j := 3) (g_v (i := 0)) (g_val (g_sorted O T.z_sorted (g_v (i := 4)))))
  (ss_cons (g_setA O "Machine" (j := 4) (g_v (i := 0)) (g_val (g_sorted O T.z_sorted (g_v (i := 6)))))
  ss_nil)))))))))))

abbrev s_Machine_signs : Stmt := inClass (top 17) 1
abbrev N_Machine_signs : List Str := ["self"]
theorem sc_Machine_signs : FnScope N_Machine_signs ["self"] (defScope s_Machine_signs) := ⟨rfl, rfl, rfl, by decide +kernel, rfl, by decide +kernel, by decide +kernel⟩
theorem g_Machine_signs (T : Txt K mg) {CM : Addr} (M : MachW K mg CM) {f : Addr} {fd : FuncData} (F : L2.Fun K "signs" "Machine.signs" s_Machine_signs f fd) (hm : Meth K CM "signs" f) (hb : Binds K fd ["self"] []) : MethG P w K mg base 1 "Machine" "signs" PG.E_Machine_signs :=
  fn_gM (k := 0) T.bas F M.mg M.cl hm hb sc_Machine_signs rfl fun cdv A outer s H E hr O =>
  (ss_cons (ss_ret (g_fld O "Machine" 0 (g_v (i := 0))))
  ss_nil)

abbrev s_Machine_rooms : Stmt := inClass (top 17) 2
abbrev N_Machine_rooms : List Str := ["self"]
theorem sc_Machine_rooms : FnScope N_Machine_rooms ["self"] (defScope s_Machine_rooms) := ⟨rfl, rfl, rfl, by decide +kernel, rfl, by decide +kernel, by decide +kernel⟩
theorem g_Machine_rooms (T : Txt K mg) {CM : Addr} (M : MachW K mg CM) {f : Addr} {fd : FuncData} (F : L2.Fun K "rooms" "Machine.rooms" s_Machine_rooms f fd) (hm : Meth K CM "rooms" f) (hb : Binds K fd ["self"] []) : MethG P w K mg base 1 "Machine" "rooms" PG.E_Machine_rooms :=
  fn_gM (k := 0) T.bas F M.mg M.cl hm hb sc_Machine_rooms rfl fun cdv A outer s H E hr O =>
  (ss_cons (ss_ret (g_fld O "Machine" 1 (g_v (i := 0))))
  ss_nil)

abbrev s_Machine_starts : Stmt := inClass (top 17) 3
abbrev N_Machine_starts : List Str := ["self"]
theorem sc_Machine_starts : FnScope N_Machine_starts ["self"] (defScope s_Machine_starts) := ⟨rfl, rfl, rfl, by decide +kernel, rfl, by decide +kernel, by decide +kernel⟩
theorem g_Machine_starts (T : Txt K mg) {CM : Addr} (M : MachW K mg CM) {f : Addr} {fd : FuncData} (F : L2.Fun K "starts" "Machine.starts" s_Machine_starts f fd) (hm : Meth K CM "starts" f) (hb : Binds K fd ["self"] []) : MethG P w K mg base 1 "Machine" "starts" PG.E_Machine_starts :=
  fn_gM (k := 0) T.bas F M.mg M.cl hm hb sc_Machine_starts rfl fun cdv A outer s H E hr O =>
  (ss_cons (ss_retF (g_tolist O (g_fld O "Machine" 2 (g_v (i := 0)))) (fun _ z => nomatch z))
  ss_nil)

abbrev s_Machine_ends : Stmt := inClass (top 17) 4
abbrev N_Machine_ends : List Str := ["self"]
theorem sc_Machine_ends : FnScope N_Machine_ends ["self"] (defScope s_Machine_ends) := ⟨rfl, rfl, rfl, by decide +kernel, rfl, by decide +kernel, by decide +kernel⟩
theorem g_Machine_ends (T : Txt K mg) {CM : Addr} (M : MachW K mg CM) {f : Addr} {fd : FuncData} (F : L2.Fun K "ends" "Machine.ends" s_Machine_ends f fd) (hm : Meth K CM "ends" f) (hb : Binds K fd ["self"] []) : MethG P w K mg base 1 "Machine" "ends" PG.E_Machine_ends :=
  fn_gM (k := 0) T.bas F M.mg M.cl hm hb sc_Machine_ends rfl fun cdv A outer s H E hr O =>
  (ss_cons (ss_retF (g_tolist O (g_fld O "Machine" 3 (g_v (i := 0)))) (fun _ z => nomatch z))
  ss_nil)

abbrev s_Machine_ways : Stmt := inClass (top 17) 5
abbrev N_Machine_ways : List Str := ["self"]
theorem sc_Machine_ways : FnScope N_Machine_ways ["self"] (defScope s_Machine_ways) := ⟨rfl, rfl, rfl, by decide +kernel, rfl, by decide +kernel, by decide +kernel⟩
theorem g_Machine_ways (T : Txt K mg) {CM : Addr} (M : MachW K mg CM) {f : Addr} {fd : FuncData} (F : L2.Fun K "ways" "Machine.ways" s_Machine_ways f fd) (hm : Meth K CM "ways" f) (hb : Binds K fd ["self"] []) : MethG P w K mg base 1 "Machine" "ways" PG.E_Machine_ways :=
  fn_gM (k := 0) T.bas F M.mg M.cl hm hb sc_Machine_ways rfl fun cdv A outer s H E hr O =>
  (ss_cons (ss_retF (g_tolist O (g_fld O "Machine" 4 (g_v (i := 0)))) (fun _ z => nomatch z))
  ss_nil)

abbrev s_index_of : Stmt := top 18
abbrev N_index_of : List Str := ["machine", "found", "way", "last", "key", "row"]
theorem sc_index_of : FnScope N_index_of ["machine"] (defScope s_index_of) := ⟨rfl, rfl, rfl, by decide +kernel, rfl, by decide +kernel, by decide +kernel⟩
theorem g_index_of (T : Txt K mg) (G_Machine_ways : MethG P w K mg base 1 "Machine" "ways" PG.E_Machine_ways) {f : Addr} {fd : FuncData} (F : L2.Fun K "index_of" "index_of" s_index_of f fd) (hm : mg "index_of" = some (.ref f)) (hb : Binds K fd ["machine"] []) : FnG P w K mg base 2 "index_of" PG.E_index_of :=
  fn_g (k := 1) T.bas F hm hb sc_index_of rfl fun cdv A outer s H E hr O =>
  (ss_cons (g_asgF s_emp (g_t O.nd (i := 1)))
  (ss_cons (g_forD O (passes_of rfl) (g_seq (g_val (g_methF O (G_Machine_ways.at hr (by decide)) (g_v (i := 0))))) (g_t O.nd (i := 2)) (sd_cons (g_asg (g_idx O (g_v (i := 2)) (s_neg g_int)) (g_t O.nd (i := 3)))
  (sd_cons (g_asg (s_sl (g_v (i := 2)) .none (.some (s_neg g_int))) (g_t O.nd (i := 4)))
  (sd_cons (ss_if (g_cmp O .eq (g_idx O (g_v (i := 2)) g_int) g_str) (ss_cons (g_asg (s_sl (g_v (i := 2)) (.some g_int) .none) (g_t O.nd (i := 3)))
  (ss_cons (g_asg (s_sl (g_v (i := 2)) .none (.some g_int)) (g_t O.nd (i := 4)))
  ss_nil)) ss_nil)
  (g_rows O (p2 := ⟨0, 0, 0, 0⟩) (i := 1) (j := 5) g_raw g_raw (g_v (i := 4)) (g_v (i := 3)) (g_t O.nd (i := 5)))))))
  (ss_cons (ss_ret (g_v (i := 1)))
  ss_nil)))

abbrev s_is_plain : Stmt := top 20
abbrev N_is_plain : List Str := ["machine", "index", "room", "opening", "closing", "rest", "keys", "sign", "kept", "key"]
theorem sc_is_plain : FnScope N_is_plain ["machine"] (defScope s_is_plain) := ⟨rfl, rfl, rfl, by decide +kernel, rfl, by decide +kernel, by decide +kernel⟩
theorem g_is_plain (T : Txt K mg) (G_Machine_rooms : MethG P w K mg base 1 "Machine" "rooms" PG.E_Machine_rooms) (G_Machine_signs : MethG P w K mg base 1 "Machine" "signs" PG.E_Machine_signs) (G_Machine_starts : MethG P w K mg base 1 "Machine" "starts" PG.E_Machine_starts) (G_index_of : FnG P w K mg base 2 "index_of" PG.E_index_of) {f : Addr} {fd : FuncData} (F : L2.Fun K "is_plain" "is_plain" s_is_plain f fd) (hm : mg "is_plain" = some (.ref f)) (hb : Binds K fd ["machine"] []) : FnG P w K mg base 3 "is_plain" PG.E_is_plain :=
  fn_g (k := 2) T.bas F hm hb sc_is_plain rfl fun cdv A outer s H E hr O =>
  (ss_cons (g_asg (g_call O (G_index_of.at hr (by decide)) (g_ai (g_v (i := 0)) sa_nil)) (g_t O.nd (i := 1)))
  (ss_cons (g_asg (g_meth O (G_Machine_signs.at hr (by decide)) (g_v (i := 0))) (g_tt (g_t1 O.nd (i := 3) (g_t1 O.nd (i := 4) (g_t1 O.nd (i := 5) g_t0)))))
  (ss_cons (ss_if (g_cmp O .ne (g_len O (g_val (g_methF O (G_Machine_starts.at hr (by decide)) (g_v (i := 0))))) g_int) (ss_cons (ss_ret g_bl)
  ss_nil) ss_nil)
  (ss_cons (g_for O (passes_of rfl) (g_rng1 O (g_meth O (G_Machine_rooms.at hr (by decide)) (g_v (i := 0)))) (g_t O.nd (i := 2)) (ss_cons (g_asg (g_op .add (g_val (g_comp [("sign", 7)] O (g_seq (g_v (i := 5))) (fun _ _ _ _ _ => (g_t O.nd (i := 7))) (fun _ _ _ _ _ _ => g_if0) (fun _ _ _ _ _ O1 => (g_tup (g_l1 g_str (g_l1 (g_v (i := 2)) (g_l1 (g_v (i := 7)) .nil))))))) (g_val (g_comp [("sign", 7)] O (g_seq (g_v (i := 3))) (fun _ _ _ _ _ => (g_t O.nd (i := 7))) (fun _ _ _ _ _ _ => g_if0) (fun _ _ _ _ _ O2 => (g_tup (g_l1 g_str (g_l1 (g_v (i := 2)) (g_l1 (g_v (i := 7)) .nil)))))))) (g_t O.nd (i := 6)))
  (ss_cons (g_for O (passes_of rfl) (g_seq (g_v (i := 4))) (g_t O.nd (i := 7)) (ss_cons (g_asg (g_op .add (g_v (i := 6)) (g_val (g_comp [("kept", 8)] O (g_rng1 O (g_meth O (G_Machine_rooms.at hr (by decide)) (g_v (i := 0)))) (fun _ _ _ _ _ => (g_t O.nd (i := 8))) (fun _ _ _ _ _ _ => g_if0) (fun _ _ _ _ _ O3 => (g_tup (g_l1 g_str (g_l1 (g_v (i := 2)) (g_l1 (g_v (i := 8)) (g_l1 (g_v (i := 7)) .nil))))))))) (g_t O.nd (i := 6)))
  ss_nil))
  (ss_cons (ss_if (s_not (g_all O (g_val (g_comp [("key", 9)] O (g_seq (g_v (i := 6))) (fun _ _ _ _ _ => (g_t O.nd (i := 9))) (fun _ _ _ _ _ _ => g_if0) (fun _ _ _ _ _ O4 => (g_cmp O4 .eq (g_len O4 (g_get O4 (g_v (i := 1)) (g_v (i := 9)) (g_val (g_lst .nil)))) g_int)))))) (ss_cons (ss_ret g_bl)
  ss_nil) ss_nil)
  ss_nil))))
  (ss_cons (ss_ret g_bl)
  ss_nil)))))

abbrev s__law_cell_at : Stmt := top 22
abbrev N__law_cell_at : List Str := ["_law_script", "_law_k"]
theorem sc__law_cell_at : FnScope N__law_cell_at ["_law_script", "_law_k"] (defScope s__law_cell_at) := ⟨rfl, rfl, rfl, by decide +kernel, rfl, by decide +kernel, by decide +kernel⟩
theorem g__law_cell_at (T : Txt K mg) {f : Addr} {fd : FuncData} (F : L2.Fun K "_law_cell_at" "_law_cell_at" s__law_cell_at f fd) (hm : mg "_law_cell_at" = some (.ref f)) (hb : Binds K fd ["_law_script", "_law_k"] []) : FnG P w K mg base 1 "_law_cell_at" PG.E__law_cell_at :=
  fn_g (k := 0) T.bas F hm hb sc__law_cell_at rfl fun cdv A outer s H E hr O =>
  (ss_cons (ss_if (g_cmp O .lt (g_v (i := 1)) (g_len O (g_v (i := 0)))) (ss_cons (ss_ret (g_idx O (g_v (i := 0)) (g_v (i := 1))))
  ss_nil) ss_nil)
  (ss_cons (ss_ret g_int)
  ss_nil))

abbrev s__law_mixed : Stmt := top 23
abbrev N__law_mixed : List Str := ["_law_cell", "_law_k"]
theorem sc__law_mixed : FnScope N__law_mixed ["_law_cell", "_law_k"] (defScope s__law_mixed) := ⟨rfl, rfl, rfl, by decide +kernel, rfl, by decide +kernel, by decide +kernel⟩
theorem g__law_mixed (T : Txt K mg) {f : Addr} {fd : FuncData} (F : L2.Fun K "_law_mixed" "_law_mixed" s__law_mixed f fd) (hm : mg "_law_mixed" = some (.ref f)) (hb : Binds K fd ["_law_cell", "_law_k"] []) : FnG P w K mg base 1 "_law_mixed" PG.E__law_mixed :=
  fn_g (k := 0) T.bas F hm hb sc__law_mixed rfl fun cdv A outer s H E hr O =>
  (ss_cons (ss_ret (g_op .mod (g_op .add (g_op .mul (g_v (i := 0)) g_int) (g_op .mul g_int (g_v (i := 1)))) g_int))
  ss_nil)

abbrev s__law_signs_by : Stmt := top 24
abbrev N__law_signs_by : List Str := ["_law_cell", "_law_letters", "_law_step", "_law_row", "_law_one", "_law_other", "_law_k"]
theorem sc__law_signs_by : FnScope N__law_signs_by ["_law_cell"] (defScope s__law_signs_by) := ⟨rfl, rfl, rfl, by decide +kernel, rfl, by decide +kernel, by decide +kernel⟩
theorem g__law_signs_by (T : Txt K mg) {f : Addr} {fd : FuncData} (F : L2.Fun K "_law_signs_by" "_law_signs_by" s__law_signs_by f fd) (hm : mg "_law_signs_by" = some (.ref f)) (hb : Binds K fd ["_law_cell"] []) : FnG P w K mg base 1 "_law_signs_by" PG.E__law_signs_by :=
  fn_g (k := 0) T.bas F hm hb sc__law_signs_by rfl fun cdv A outer s H E hr O =>
  (ss_cons (g_asg g_str (g_t O.nd (i := 1)))
  (ss_cons (g_asg (g_op .add g_int (g_op .mul g_int (g_op .mod (g_op .div (g_v (i := 0)) g_int) g_int))) (g_t O.nd (i := 2)))
  (ss_cons (g_asg (g_join g_str (g_val (g_comp [("_law_k", 6)] O (g_rng1 O g_int) (fun _ _ _ _ _ => (g_t O.nd (i := 6))) (fun _ _ _ _ _ _ => g_if0) (fun _ _ _ _ _ O1 => (g_idx O1 (g_v (i := 1)) (g_op .mod (g_op .add (g_v (i := 0)) (g_op .mul (g_v (i := 2)) (g_v (i := 6)))) g_int)))))) (g_t O.nd (i := 3)))
  (ss_cons (g_asg (g_idx O (g_val (g_lst (g_l1 g_int (g_l1 g_int (g_l1 g_int (g_l1 g_int .nil)))))) (g_op .mod (g_op .div (g_v (i := 0)) g_int) g_int)) (g_t O.nd (i := 4)))
  (ss_cons (g_asg (g_op .add (g_v (i := 4)) (g_idx O (g_val (g_lst (g_l1 g_int (g_l1 g_int (g_l1 g_int (g_l1 g_int (g_l1 g_int .nil))))))) (g_op .mod (g_op .div (g_v (i := 0)) g_int) g_int))) (g_t O.nd (i := 5)))
  (ss_cons (ss_ret (g_tup (g_l1 (s_sl (g_v (i := 3)) .none (.some (g_v (i := 4)))) (g_l1 (s_sl (g_v (i := 3)) (.some (g_v (i := 4))) (.some (g_v (i := 5)))) (g_l1 (s_sl (g_v (i := 3)) (.some (g_v (i := 5))) (.some (g_op .add (g_v (i := 5)) (g_op .mod (g_op .div (g_v (i := 0)) g_int) g_int)))) .nil)))))
  ss_nil))))))

abbrev s__law_any_signs_by : Stmt := top 25
abbrev N__law_any_signs_by : List Str := ["_law_cell", "_law_letters", "_law_step", "_law_row", "_law_one", "_law_other", "_law_k"]
theorem sc__law_any_signs_by : FnScope N__law_any_signs_by ["_law_cell"] (defScope s__law_any_signs_by) := ⟨rfl, rfl, rfl, by decide +kernel, rfl, by decide +kernel, by decide +kernel⟩
theorem g__law_any_signs_by (T : Txt K mg) (G__law_signs_by : FnG P w K mg base 1 "_law_signs_by" PG.E__law_signs_by) {f : Addr} {fd : FuncData} (F : L2.Fun K "_law_any_signs_by" "_law_any_signs_by" s__law_any_signs_by f fd) (hm : mg "_law_any_signs_by" = some (.ref f)) (hb : Binds K fd ["_law_cell"] []) : FnG P w K mg base 2 "_law_any_signs_by" PG.E__law_any_signs_by :=
  fn_g (k := 1) T.bas F hm hb sc__law_any_signs_by rfl fun cdv A outer s H E hr O =>
  (ss_cons (ss_if (g_cmp O .ne (g_op .mod (g_op .div (g_v (i := 0)) g_int) g_int) g_int) (ss_cons (ss_ret (g_call O (G__law_signs_by.at hr (by decide)) (g_ai (g_v (i := 0)) sa_nil)))
  ss_nil) ss_nil)
  (ss_cons (g_asg g_str (g_t O.nd (i := 1)))
  (ss_cons (g_asg (g_op .add g_int (g_op .mul g_int (g_op .mod (g_op .div (g_v (i := 0)) g_int) g_int))) (g_t O.nd (i := 2)))
  (ss_cons (g_asg (g_join g_str (g_val (g_comp [("_law_k", 6)] O (g_rng1 O g_int) (fun _ _ _ _ _ => (g_t O.nd (i := 6))) (fun _ _ _ _ _ _ => g_if0) (fun _ _ _ _ _ O1 => (g_idx O1 (g_v (i := 1)) (g_op .mod (g_op .add (g_v (i := 0)) (g_op .mul (g_v (i := 2)) (g_v (i := 6)))) g_int)))))) (g_t O.nd (i := 3)))
  (ss_cons (g_asg (g_op .add g_int (g_op .mod (g_op .div (g_v (i := 0)) g_int) g_int)) (g_t O.nd (i := 4)))
  (ss_cons (g_asg (g_op .add (g_op .add (g_v (i := 4)) g_int) (g_op .mod (g_op .div (g_v (i := 0)) g_int) g_int)) (g_t O.nd (i := 5)))
  (ss_cons (ss_ret (g_tup (g_l1 (s_sl (g_v (i := 3)) .none (.some (g_v (i := 4)))) (g_l1 (s_sl (g_v (i := 3)) (.some (g_v (i := 4))) (.some (g_v (i := 5)))) (g_l1 (s_sl (g_v (i := 3)) (.some (g_v (i := 5))) (.some (g_op .add (g_op .add (g_v (i := 5)) g_int) (g_op .mod (g_op .div (g_v (i := 0)) g_int) g_int)))) .nil)))))
  ss_nil)))))))

abbrev s__law_way_by : Stmt := top 26
abbrev N__law_way_by : List Str := ["_law_cell", "_law_signs", "_law_rooms", "_law_opens", "_law_most", "_law_one", "_law_other", "_law_third"]
theorem sc__law_way_by : FnScope N__law_way_by ["_law_cell", "_law_signs", "_law_rooms", "_law_opens", "_law_most"] (defScope s__law_way_by) := ⟨rfl, rfl, rfl, by decide +kernel, rfl, by decide +kernel, by decide +kernel⟩
theorem g__law_way_by (T : Txt K mg) {f : Addr} {fd : FuncData} (F : L2.Fun K "_law_way_by" "_law_way_by" s__law_way_by f fd) (hm : mg "_law_way_by" = some (.ref f)) (hb : Binds K fd ["_law_cell", "_law_signs", "_law_rooms", "_law_opens", "_law_most"] []) : FnG P w K mg base 1 "_law_way_by" PG.E__law_way_by :=
  fn_g (k := 0) T.bas F hm hb sc__law_way_by rfl fun cdv A outer s H E hr O =>
  (ss_cons (g_asg (g_op .mod (g_op .div (g_v (i := 0)) g_int) (g_v (i := 2))) (g_t O.nd (i := 5)))
  (ss_cons (g_asg (g_op .mod (g_op .div (g_v (i := 0)) g_int) (g_v (i := 2))) (g_t O.nd (i := 6)))
  (ss_cons (g_asg (g_op .mod (g_op .div (g_v (i := 0)) g_int) (g_v (i := 2))) (g_t O.nd (i := 7)))
  (ss_cons (ss_if (g_and (g_l1 (g_cmp O .eq (g_op .mod (g_v (i := 0)) g_int) g_int) (g_l1 (g_cmp O .lt (g_len O (g_v (i := 3))) (g_v (i := 4))) (g_l1 (g_cmp O .ne (g_idx O (g_v (i := 1)) g_int) g_str) .nil)))) (ss_cons (ss_if (g_and (g_l1 (g_cmp O .ne (g_v (i := 3)) (g_val (g_lst .nil))) (g_l1 (g_cmp O .eq (g_op .mod (g_op .div (g_v (i := 0)) g_int) g_int) g_int) .nil))) (ss_cons (ss_ret (g_op .add (s_sl (g_idx O (g_v (i := 3)) g_int) .none (.some g_int)) (g_tup (g_l1 (g_v (i := 6)) (g_l1 (g_v (i := 7)) .nil)))))
  ss_nil) ss_nil)
  (ss_cons (ss_if (g_and (g_l1 (g_cmp O .ne (g_v (i := 3)) (g_val (g_lst .nil))) (g_l1 (g_cmp O .eq (g_op .mod (g_op .div (g_v (i := 0)) g_int) g_int) g_int) .nil))) (ss_cons (ss_ret (g_tup (g_l1 g_str (g_l1 (g_op .sub (g_op .sub (g_v (i := 2)) g_int) (g_idx O (g_idx O (g_v (i := 3)) g_int) g_int)) (g_l1 (g_idx O (g_idx O (g_v (i := 3)) g_int) g_int) (g_l1 (g_v (i := 6)) (g_l1 (g_v (i := 7)) .nil)))))))
  ss_nil) ss_nil)
  (ss_cons (ss_ret (g_tup (g_l1 g_str (g_l1 (g_v (i := 5)) (g_l1 (g_idx O (g_idx O (g_v (i := 1)) g_int) (g_op .mod (g_op .div (g_v (i := 0)) g_int) (g_len O (g_idx O (g_v (i := 1)) g_int)))) (g_l1 (g_v (i := 6)) (g_l1 (g_v (i := 7)) .nil)))))))
  ss_nil))) ss_nil)
  (ss_cons (ss_if (g_and (g_l1 (g_cmp O .lt (g_op .mod (g_v (i := 0)) g_int) g_int) (g_l1 (g_cmp O .ne (g_idx O (g_v (i := 1)) g_int) g_str) .nil))) (ss_cons (ss_if (g_and (g_l1 (g_cmp O .ne (g_v (i := 3)) (g_val (g_lst .nil))) (g_l1 (g_cmp O .gt (g_op .mod (g_op .div (g_v (i := 0)) g_int) g_int) g_int) .nil))) (ss_cons (g_asg (s_sl (g_idx O (g_v (i := 3)) (g_op .mod (g_op .div (g_v (i := 0)) g_int) (g_len O (g_v (i := 3))))) (.some g_int) .none) (g_tt (g_t1 O.nd (i := 5) (g_t1 O.nd (i := 6) g_t0))))
  ss_nil) ss_nil)
  (ss_cons (ss_ret (g_tup (g_l1 g_str (g_l1 (g_v (i := 5)) (g_l1 (g_v (i := 6)) (g_l1 (g_idx O (g_idx O (g_v (i := 1)) g_int) (g_op .mod (g_op .div (g_v (i := 0)) g_int) (g_len O (g_idx O (g_v (i := 1)) g_int)))) (g_l1 (g_v (i := 7)) .nil)))))))
  ss_nil)) ss_nil)
  (ss_cons (ss_if (g_cmp O .ne (g_idx O (g_v (i := 1)) g_int) g_str) (ss_cons (ss_ret (g_tup (g_l1 g_str (g_l1 (g_v (i := 5)) (g_l1 (g_idx O (g_idx O (g_v (i := 1)) g_int) (g_op .mod (g_op .div (g_v (i := 0)) g_int) (g_len O (g_idx O (g_v (i := 1)) g_int)))) (g_l1 (g_v (i := 6)) .nil))))))
  ss_nil) ss_nil)
  (ss_cons (ss_ret g_non)
  ss_nil)))))))

abbrev s__law_parts_by : Stmt := top 27
abbrev N__law_parts_by : List Str := ["_law_script", "_law_at", "_law_signs", "_law_most", "_law_rooms", "_law_many", "_law_starts", "_law_ends", "_law_ways", "_law_k", "_law_opens", "_law_way", "_law_room"]
theorem sc__law_parts_by : FnScope N__law_parts_by ["_law_script", "_law_at", "_law_signs", "_law_most"] (defScope s__law_parts_by) := ⟨rfl, rfl, rfl, by decide +kernel, rfl, by decide +kernel, by decide +kernel⟩
theorem g__law_parts_by (T : Txt K mg) (G__law_cell_at : FnG P w K mg base 1 "_law_cell_at" PG.E__law_cell_at) (G__law_mixed : FnG P w K mg base 1 "_law_mixed" PG.E__law_mixed) (G__law_way_by : FnG P w K mg base 1 "_law_way_by" PG.E__law_way_by) {f : Addr} {fd : FuncData} (F : L2.Fun K "_law_parts_by" "_law_parts_by" s__law_parts_by f fd) (hm : mg "_law_parts_by" = some (.ref f)) (hb : Binds K fd ["_law_script", "_law_at", "_law_signs", "_law_most"] []) : FnG P w K mg base 2 "_law_parts_by" PG.E__law_parts_by :=
  fn_g (k := 1) T.bas F hm hb sc__law_parts_by rfl fun cdv A outer s H E hr O =>
  (ss_cons (g_asg (g_op .add g_int (g_op .mod (g_call O (G__law_cell_at.at hr (by decide)) (g_ai (g_v (i := 0)) (g_ai (g_v (i := 1)) sa_nil))) (g_v (i := 3)))) (g_t O.nd (i := 4)))
  (ss_cons (g_asg (g_idx O (g_val (g_lst (g_l1 g_int (g_l1 g_int (g_l1 g_int (g_l1 g_int .nil)))))) (g_op .sub (g_v (i := 4)) g_int)) (g_t O.nd (i := 5)))
  (ss_cons (ss_lc (g_lcS (i := 6) [("_law_room", 12)] O (g_rng1 O (g_v (i := 4))) (fun _ _ _ _ _ => (g_t O.nd (i := 12))) (fun _ _ _ _ _ O1 => g_if1 (g_cmp O1 .gt (g_op .mod (g_op .div (g_call O1 (G__law_cell_at.at hr (by decide)) (g_ai (g_v (i := 0)) (g_ai (g_op .add (g_v (i := 1)) g_int) sa_nil))) (g_op .add (g_op .mul g_int (g_v (i := 12))) g_int)) g_int) g_int)) (fun _ _ _ _ _ O1 => (g_v (i := 12)))))
  (ss_cons (ss_lc (g_lcS (i := 7) [("_law_room", 12)] O (g_rng1 O (g_v (i := 4))) (fun _ _ _ _ _ => (g_t O.nd (i := 12))) (fun _ _ _ _ _ O2 => g_if1 (g_cmp O2 .eq (g_op .mod (g_op .div (g_call O2 (G__law_cell_at.at hr (by decide)) (g_ai (g_v (i := 0)) (g_ai (g_op .add (g_v (i := 1)) g_int) sa_nil))) (g_op .add (g_op .mul g_int (g_v (i := 12))) g_int)) g_int) g_int)) (fun _ _ _ _ _ O2 => (g_v (i := 12)))))
  (ss_cons (g_asgF (g_lst .nil) (g_t O.nd (i := 8)))
  (ss_cons (g_for O (passes_of rfl) (g_rng1 O (g_op .add g_int (g_op .mod (g_op .div (g_call O (G__law_cell_at.at hr (by decide)) (g_ai (g_v (i := 0)) (g_ai (g_v (i := 1)) sa_nil))) g_int) g_int))) (g_t O.nd (i := 9)) (ss_cons (ss_lc (g_lcS (i := 10) [("_law_way", 11)] O (g_seq (g_v (i := 8))) (fun _ _ _ _ _ => (g_t O.nd (i := 11))) (fun _ _ _ _ _ O3 => g_if1 (g_cmp O3 .eq (g_idx O3 (g_v (i := 11)) g_int) g_str)) (fun _ _ _ _ _ O3 => (g_v (i := 11)))))
  (ss_cons (g_asg (g_call O (G__law_way_by.at hr (by decide)) (g_ai (g_call O (G__law_mixed.at hr (by decide)) (g_ai (g_call O (G__law_cell_at.at hr (by decide)) (g_ai (g_v (i := 0)) (g_ai (g_op .add (g_op .add (g_v (i := 1)) g_int) (g_v (i := 9))) sa_nil))) (g_ai (g_v (i := 9)) sa_nil))) (g_ai (g_v (i := 2)) (g_ai (g_v (i := 4)) (g_ai (g_v (i := 10)) (g_ai (g_v (i := 5)) sa_nil)))))) (g_t O.nd (i := 11)))
  (ss_cons (ss_if (g_cmp O .notn (g_v (i := 11)) g_non) (ss_cons (g_app (g_v (i := 8)) (g_v (i := 11)))
  ss_nil) ss_nil)
  ss_nil))))
  (ss_cons (ss_ret (g_tup (g_l1 (g_v (i := 2)) (g_l1 (g_v (i := 4)) (g_l1 (g_v (i := 6)) (g_l1 (g_v (i := 7)) (g_l1 (g_v (i := 8)) .nil)))))))
  ss_nil)))))))

abbrev s__law_made : Stmt := top 28
abbrev N__law_made : List Str := ["_law_parts"]
theorem sc__law_made : FnScope N__law_made ["_law_parts"] (defScope s__law_made) := ⟨rfl, rfl, rfl, by decide +kernel, rfl, by decide +kernel, by decide +kernel⟩
theorem g__law_made (T : Txt K mg) (G_Machine___init__ : MakeG P w K mg base 4 "Machine" PG.E_Machine___init__) {f : Addr} {fd : FuncData} (F : L2.Fun K "_law_made" "_law_made" s__law_made f fd) (hm : mg "_law_made" = some (.ref f)) (hb : Binds K fd ["_law_parts"] []) : FnG P w K mg base 6 "_law_made" PG.E__law_made :=
  fn_g (k := 5) T.bas F hm hb sc__law_made rfl fun cdv A outer s H E hr O =>
  (ss_cons (ss_ret (g_make O (G_Machine___init__.at hr (by decide)) (g_l1 (g_idx O (g_v (i := 0)) g_int) (g_l1 (g_idx O (g_v (i := 0)) g_int) (g_l1 (g_val (g_tolist O (g_idx O (g_v (i := 0)) g_int))) (g_l1 (g_val (g_tolist O (g_idx O (g_v (i := 0)) g_int))) (g_l1 (g_val (g_tolist O (g_idx O (g_v (i := 0)) g_int))) .nil)))))))
  ss_nil)

abbrev s__law_full : Stmt := top 29
abbrev N__law_full : List Str := ["_law_script", "_law_at", "_law_signs", "_law_rooms", "_law_ways", "_law_cells", "_law_room", "_law_sign", "_law_kept", "_law_k"]
def m__law_full : List MS := [.asgF 4 (.lst []), .asg (.nm 5) (.comp (.call PG.E__law_mixed [(.call PG.E__law_cell_at [(.var 0), (.bin .add (.var 1) (.bin .mod (.var 9) (.cst (.int 40))))]), (.var 9)]) (.nm 9) .rng1 [(.cst (.int 200))] [] [9]), .for (.nm 6) .rng1 [(.var 3)] [.for (.nm 7) .seq [(.idx (.var 2) (.cst (.int 2)))] [.app 4 (.tup [(.cst (.str [111, 110])), (.var 6), (.var 7), (.bin .mod (.idx (.var 5) (.b1 .len (.var 4))) (.var 3))])], .for (.nm 7) .seq [(.idx (.var 2) (.cst (.int 0)))] [.app 4 (.tup [(.cst (.str [111, 112, 101, 110])), (.var 6), (.var 7), (.bin .mod (.idx (.var 5) (.b1 .len (.var 4))) (.var 3)), (.bin .mod (.bin .div (.idx (.var 5) (.b1 .len (.var 4))) (.cst (.int 4))) (.var 3))])], .for (.nm 8) .rng1 [(.var 3)] [.for (.nm 7) .seq [(.idx (.var 2) (.cst (.int 1)))] [.app 4 (.tup [(.cst (.str [99, 108, 111, 115, 101])), (.var 6), (.var 8), (.var 7), (.bin .mod (.idx (.var 5) (.b1 .len (.var 4))) (.var 3))])]]], .ret (.var 4)]
def E__law_full : FnE := ⟨[.im, .im, .im, .im], false, runF [.im, .im, .im, .im] 10 false 0 m__law_full⟩
@[simp] theorem ks__law_full : E__law_full.ks = [.im, .im, .im, .im] := rfl
@[simp] theorem fr__law_full : E__law_full.fresh = false := rfl
theorem F__law_full (ds : List D) : E__law_full.F ds = runF [.im, .im, .im, .im] 10 false 0 m__law_full ds := rfl
theorem sc__law_full : FnScope N__law_full ["_law_script", "_law_at", "_law_signs", "_law_rooms"] (defScope s__law_full) := ⟨rfl, rfl, rfl, by decide +kernel, rfl, by decide +kernel, by decide +kernel⟩
theorem g__law_full (T : Txt K mg) (G__law_cell_at : FnG P w K mg base 1 "_law_cell_at" PG.E__law_cell_at) (G__law_mixed : FnG P w K mg base 1 "_law_mixed" PG.E__law_mixed) {f : Addr} {fd : FuncData} (F : L2.Fun K "_law_full" "_law_full" s__law_full f fd) (hm : mg "_law_full" = some (.ref f)) (hb : Binds K fd ["_law_script", "_law_at", "_law_signs", "_law_rooms"] []) : FnG P w K mg base 2 "_law_full" E__law_full :=
  fn_g (k := 1) T.bas F hm hb sc__law_full rfl fun cdv A outer s H E hr O =>
  (ss_cons (g_asgF (g_lst .nil) (g_t O.nd (i := 4)))
  (ss_cons (ss_lc (g_lcS (i := 5) [("_law_k", 9)] O (g_rng1 O g_int) (fun _ _ _ _ _ => (g_t O.nd (i := 9))) (fun _ _ _ _ _ _ => g_if0) (fun _ _ _ _ _ O1 => (g_call O1 (G__law_mixed.at hr (by decide)) (g_ai (g_call O1 (G__law_cell_at.at hr (by decide)) (g_ai (g_v (i := 0)) (g_ai (g_op .add (g_v (i := 1)) (g_op .mod (g_v (i := 9)) g_int)) sa_nil))) (g_ai (g_v (i := 9)) sa_nil))))))
  (ss_cons (g_for O (passes_of rfl) (g_rng1 O (g_v (i := 3))) (g_t O.nd (i := 6)) (ss_cons (g_for O (passes_of rfl) (g_seq (g_idx O (g_v (i := 2)) g_int)) (g_t O.nd (i := 7)) (ss_cons (g_app (g_v (i := 4)) (g_tup (g_l1 g_str (g_l1 (g_v (i := 6)) (g_l1 (g_v (i := 7)) (g_l1 (g_op .mod (g_idx O (g_v (i := 5)) (g_len O (g_v (i := 4)))) (g_v (i := 3))) .nil))))))
  ss_nil))
  (ss_cons (g_for O (passes_of rfl) (g_seq (g_idx O (g_v (i := 2)) g_int)) (g_t O.nd (i := 7)) (ss_cons (g_app (g_v (i := 4)) (g_tup (g_l1 g_str (g_l1 (g_v (i := 6)) (g_l1 (g_v (i := 7)) (g_l1 (g_op .mod (g_idx O (g_v (i := 5)) (g_len O (g_v (i := 4)))) (g_v (i := 3))) (g_l1 (g_op .mod (g_op .div (g_idx O (g_v (i := 5)) (g_len O (g_v (i := 4)))) g_int) (g_v (i := 3))) .nil)))))))
  ss_nil))
  (ss_cons (g_for O (passes_of rfl) (g_rng1 O (g_v (i := 3))) (g_t O.nd (i := 8)) (ss_cons (g_for O (passes_of rfl) (g_seq (g_idx O (g_v (i := 2)) g_int)) (g_t O.nd (i := 7)) (ss_cons (g_app (g_v (i := 4)) (g_tup (g_l1 g_str (g_l1 (g_v (i := 6)) (g_l1 (g_v (i := 8)) (g_l1 (g_v (i := 7)) (g_l1 (g_op .mod (g_idx O (g_v (i := 5)) (g_len O (g_v (i := 4)))) (g_v (i := 3))) .nil)))))))
  ss_nil))
  ss_nil))
  ss_nil))))
  (ss_cons (ss_ret (g_v (i := 4)))
  ss_nil))))

abbrev s__law_is_plain : Stmt := top 30
abbrev N__law_is_plain : List Str := ["_law_parts", "_law_keys", "_law_way", "_law_due", "_law_heads", "_law_signs", "_law_rooms", "_law_starts", "_law_ends", "_law_ways", "_law_pair", "_law_head"]
def m__law_is_plain : List MS := [.asg (.tp [5, 6, 7, 8, 9]) (.var 0), .asgF 1 (.lst []), .for (.nm 2) .seq [(.var 9)] [.ite (.cmp .notin (.var 2) (.comp (.idx (.var 10) (.cst (.int 1))) (.nm 10) .seq [(.var 1)] [] [10])) [.app 1 (.tup [(.ife (.cmp .eq (.idx (.var 2) (.cst (.int 0))) (.cst (.str [99, 108, 111, 115, 101]))) (.sl (.var 2) [] [(.cst (.int 4))]) (.sl (.var 2) [] [(.cst (.int 3))])), (.var 2)])] []], .asg (.nm 3) (.bin .mul (.var 6) (.bin .add (.bin .add (.b1 .len (.idx (.var 5) (.cst (.int 0)))) (.b1 .len (.idx (.var 5) (.cst (.int 2))))) (.bin .mul (.var 6) (.b1 .len (.idx (.var 5) (.cst (.int 1))))))), .asg (.nm 4) (.comp (.idx (.var 10) (.cst (.int 0))) (.nm 10) .seq [(.var 1)] [] [10]), .ret (.and [(.cmp .eq (.b1 .len (.var 7)) (.cst (.int 1))), (.cmp .eq (.b1 .len (.var 4)) (.var 3)), (.cmp .eq (.comp (.var 11) (.nm 11) .seq [(.var 4)] [(.cmp .gt (.cnt (.var 4) (.var 11)) (.cst (.int 1)))] [11]) (.lst []))])]
def E__law_is_plain : FnE := ⟨[.im], false, runF [.im] 12 false 0 m__law_is_plain⟩
@[simp] theorem ks__law_is_plain : E__law_is_plain.ks = [.im] := rfl
@[simp] theorem fr__law_is_plain : E__law_is_plain.fresh = false := rfl
theorem F__law_is_plain (ds : List D) : E__law_is_plain.F ds = runF [.im] 12 false 0 m__law_is_plain ds := rfl
theorem sc__law_is_plain : FnScope N__law_is_plain ["_law_parts"] (defScope s__law_is_plain) := ⟨rfl, rfl, rfl, by decide +kernel, rfl, by decide +kernel, by decide +kernel⟩
theorem g__law_is_plain (T : Txt K mg) {f : Addr} {fd : FuncData} (F : L2.Fun K "_law_is_plain" "_law_is_plain" s__law_is_plain f fd) (hm : mg "_law_is_plain" = some (.ref f)) (hb : Binds K fd ["_law_parts"] []) : FnG P w K mg base 1 "_law_is_plain" E__law_is_plain :=
  fn_g (k := 0) T.bas F hm hb sc__law_is_plain rfl fun cdv A outer s H E hr O =>
  (ss_cons (g_asg (g_v (i := 0)) (g_tt (g_t1 O.nd (i := 5) (g_t1 O.nd (i := 6) (g_t1 O.nd (i := 7) (g_t1 O.nd (i := 8) (g_t1 O.nd (i := 9) g_t0)))))))
  (ss_cons (g_asgF (g_lst .nil) (g_t O.nd (i := 1)))
  (ss_cons (g_for O (passes_of rfl) (g_seq (g_v (i := 9))) (g_t O.nd (i := 2)) (ss_cons (ss_if (g_cmp O .notin (g_v (i := 2)) (g_val (g_comp [("_law_pair", 10)] O (g_seq (g_v (i := 1))) (fun _ _ _ _ _ => (g_t O.nd (i := 10))) (fun _ _ _ _ _ _ => g_if0) (fun _ _ _ _ _ O1 => (g_idx O1 (g_v (i := 10)) g_int))))) (ss_cons (g_app (g_v (i := 1)) (g_tup (g_l1 (s_ife (g_cmp O .eq (g_idx O (g_v (i := 2)) g_int) g_str) (s_sl (g_v (i := 2)) .none (.some g_int)) (s_sl (g_v (i := 2)) .none (.some g_int))) (g_l1 (g_v (i := 2)) .nil))))
  ss_nil) ss_nil)
  ss_nil))
  (ss_cons (g_asg (g_op .mul (g_v (i := 6)) (g_op .add (g_op .add (g_len O (g_idx O (g_v (i := 5)) g_int)) (g_len O (g_idx O (g_v (i := 5)) g_int))) (g_op .mul (g_v (i := 6)) (g_len O (g_idx O (g_v (i := 5)) g_int))))) (g_t O.nd (i := 3)))
  (ss_cons (g_asg (g_val (g_comp [("_law_pair", 10)] O (g_seq (g_v (i := 1))) (fun _ _ _ _ _ => (g_t O.nd (i := 10))) (fun _ _ _ _ _ _ => g_if0) (fun _ _ _ _ _ O2 => (g_idx O2 (g_v (i := 10)) g_int)))) (g_t O.nd (i := 4)))
  (ss_cons (ss_ret (g_and (g_l1 (g_cmp O .eq (g_len O (g_v (i := 7))) g_int) (g_l1 (g_cmp O .eq (g_len O (g_v (i := 4))) (g_v (i := 3))) (g_l1 (g_cmp O .eq (g_val (g_comp [("_law_head", 11)] O (g_seq (g_v (i := 4))) (fun _ _ _ _ _ => (g_t O.nd (i := 11))) (fun _ _ _ _ _ O3 => g_if1 (g_cmp O3 .gt (g_cnt O3.hu (g_v (i := 4)) (g_v (i := 11))) g_int)) (fun _ _ _ _ _ O3 => (g_v (i := 11))))) (g_val (g_lst .nil))) .nil)))))
  ss_nil))))))

abbrev s_law : Stmt := top 31
abbrev N_law : List Str := ["_law_script", "_law_signs", "_law_rooms", "_law_cell", "_law_parts", "_law_machine", "_law_turn", "_law_ways", "_law_ends", "_law_at", "_law_found", "_law_way", "_law_room"]
def m_law : List MS := [.asg (.nm 1) (.call PG.E__law_any_signs_by [(.call PG.E__law_cell_at [(.var 0), (.cst (.int 0))])]), .asg (.nm 2) (.bin .add (.cst (.int 1)) (.bin .mod (.call PG.E__law_cell_at [(.var 0), (.cst (.int 1))]) (.cst (.int 4)))), .asg (.nm 3) (.call PG.E__law_mixed [(.call PG.E__law_cell_at [(.var 0), (.cst (.int 2))]), (.cst (.int 1))]), .asg (.nm 4) (.call PG.E__law_parts_by [(.var 0), (.cst (.int 3)), (.var 1), (.cst (.int 4))]), .ite (.cmp .lt (.bin .mod (.var 3) (.cst (.int 8))) (.cst (.int 7))) [.asg (.nm 7) (.call E__law_full [(.var 0), (.cst (.int 4)), (.var 1), (.var 2)]), .asg (.nm 8) (.comp (.var 12) (.nm 12) .rng1 [(.var 2)] [(.cmp .eq (.bin .mod (.bin .div (.var 3) (.bin .add (.var 12) (.cst (.int 9)))) (.cst (.int 2))) (.cst (.int 0)))] [12]), .asg (.nm 4) (.tup [(.var 1), (.var 2), (.lst [(.bin .mod (.bin .div (.var 3) (.cst (.int 8))) (.var 2))]), (.var 8), (.var 7)]), .asg (.nm 9) (.bin .mod (.bin .div (.var 3) (.cst (.int 32))) (.pu false maxD [(.cst (.int 1)), (.b1 .len (.var 7))])), .ite (.cmp .eq (.bin .mod (.var 3) (.cst (.int 8))) (.cst (.int 1))) [.asg (.nm 4) (.tup [(.var 1), (.var 2), (.idx (.var 4) (.cst (.int 2))), (.var 8), (.bin .add (.sl (.var 7) [] [(.var 9)]) (.sl (.var 7) [(.bin .add (.var 9) (.cst (.int 1)))] []))])] [], .ite (.and [(.cmp .eq (.bin .mod (.var 3) (.cst (.int 8))) (.cst (.int 2))), (.cmp .ne (.var 7) (.lst []))]) [.asg (.nm 11) (.idx (.var 7) (.var 9)), .asg (.nm 4) (.tup [(.var 1), (.var 2), (.idx (.var 4) (.cst (.int 2))), (.var 8), (.bin .add (.var 7) (.lst [(.bin .add (.sl (.var 11) [] [(.neg (.cst (.int 1)))]) (.tup [(.bin .mod (.bin .add (.idx (.var 11) (.neg (.cst (.int 1)))) (.cst (.int 1))) (.var 2))]))]))])] [], .ite (.cmp .eq (.bin .mod (.var 3) (.cst (.int 8))) (.cst (.int 3))) [.asg (.nm 4) (.tup [(.var 1), (.var 2), (.lst []), (.var 8), (.var 7)])] [], .ite (.and [(.cmp .eq (.bin .mod (.var 3) (.cst (.int 8))) (.cst (.int 4))), (.cmp .gt (.var 2) (.cst (.int 1)))]) [.asg (.nm 4) (.tup [(.var 1), (.var 2), (.lst [(.cst (.int 0)), (.bin .sub (.var 2) (.cst (.int 1)))]), (.var 8), (.var 7)])] []] [], .asg (.nm 5) (.call PG.E__law_made [(.var 4)]), .for (.nm 6) .rng1 [(.cst (.int 2))] [.asg (.nm 10) (.call PG.E_is_plain [(.var 5)]), .ite (.or [(.not (.isi (.var 10) "bool")), (.cmp .ne (.var 10) (.call E__law_is_plain [(.var 4)]))]) [.ret (.cst (.bl false))] []], .ret (.cst (.bl true))]
def E_law : FnE := ⟨[.im], false, runF [.im] 13 false 0 m_law⟩
@[simp] theorem ks_law : E_law.ks = [.im] := rfl
@[simp] theorem fr_law : E_law.fresh = false := rfl
theorem F_law (ds : List D) : E_law.F ds = runF [.im] 13 false 0 m_law ds := rfl
theorem sc_law : FnScope N_law ["_law_script"] (defScope s_law) := ⟨rfl, rfl, rfl, by decide +kernel, rfl, by decide +kernel, by decide +kernel⟩
theorem g_law (T : Txt K mg) (G__law_any_signs_by : FnG P w K mg base 2 "_law_any_signs_by" PG.E__law_any_signs_by) (G__law_cell_at : FnG P w K mg base 1 "_law_cell_at" PG.E__law_cell_at) (G__law_full : FnG P w K mg base 2 "_law_full" E__law_full) (G__law_is_plain : FnG P w K mg base 1 "_law_is_plain" E__law_is_plain) (G__law_made : FnG P w K mg base 6 "_law_made" PG.E__law_made) (G__law_mixed : FnG P w K mg base 1 "_law_mixed" PG.E__law_mixed) (G__law_parts_by : FnG P w K mg base 2 "_law_parts_by" PG.E__law_parts_by) (G_is_plain : FnG P w K mg base 3 "is_plain" PG.E_is_plain) {f : Addr} {fd : FuncData} (F : L2.Fun K "law" "law" s_law f fd) : FnOk P w K mg base (L2N.CX P w) 7 f fd ["_law_script"] (spF ⟨P, w, K, mg⟩ E_law) :=
  fn_gL (k := 6) T.bas F sc_law rfl fun cdv A outer s H E hr O =>
  (ss_cons (g_asg (g_call O (G__law_any_signs_by.at hr (by decide)) (g_ai (g_call O (G__law_cell_at.at hr (by decide)) (g_ai (g_v (i := 0)) (g_ai g_int sa_nil))) sa_nil)) (g_t O.nd (i := 1)))
  (ss_cons (g_asg (g_op .add g_int (g_op .mod (g_call O (G__law_cell_at.at hr (by decide)) (g_ai (g_v (i := 0)) (g_ai g_int sa_nil))) g_int)) (g_t O.nd (i := 2)))
  (ss_cons (g_asg (g_call O (G__law_mixed.at hr (by decide)) (g_ai (g_call O (G__law_cell_at.at hr (by decide)) (g_ai (g_v (i := 0)) (g_ai g_int sa_nil))) (g_ai g_int sa_nil))) (g_t O.nd (i := 3)))
  (ss_cons (g_asg (g_call O (G__law_parts_by.at hr (by decide)) (g_ai (g_v (i := 0)) (g_ai g_int (g_ai (g_v (i := 1)) (g_ai g_int sa_nil))))) (g_t O.nd (i := 4)))
  (ss_cons (ss_if (g_cmp O .lt (g_op .mod (g_v (i := 3)) g_int) g_int) (ss_cons (g_asg (g_call O (G__law_full.at hr (by decide)) (g_ai (g_v (i := 0)) (g_ai g_int (g_ai (g_v (i := 1)) (g_ai (g_v (i := 2)) sa_nil))))) (g_t O.nd (i := 7)))
  (ss_cons (ss_lc (g_lcS (i := 8) [("_law_room", 12)] O (g_rng1 O (g_v (i := 2))) (fun _ _ _ _ _ => (g_t O.nd (i := 12))) (fun _ _ _ _ _ O1 => g_if1 (g_cmp O1 .eq (g_op .mod (g_op .div (g_v (i := 3)) (g_op .add (g_v (i := 12)) g_int)) g_int) g_int)) (fun _ _ _ _ _ O1 => (g_v (i := 12)))))
  (ss_cons (g_asg (g_tup (g_l1 (g_v (i := 1)) (g_l1 (g_v (i := 2)) (g_l1 (g_val (g_lst (g_l1 (g_op .mod (g_op .div (g_v (i := 3)) g_int) (g_v (i := 2))) .nil))) (g_l1 (g_v (i := 8)) (g_l1 (g_v (i := 7)) .nil)))))) (g_t O.nd (i := 4)))
  (ss_cons (g_asg (g_op .mod (g_op .div (g_v (i := 3)) g_int) (g_max O T.z_max g_int (g_len O (g_v (i := 7))))) (g_t O.nd (i := 9)))
  (ss_cons (ss_if (g_cmp O .eq (g_op .mod (g_v (i := 3)) g_int) g_int) (ss_cons (g_asg (g_tup (g_l1 (g_v (i := 1)) (g_l1 (g_v (i := 2)) (g_l1 (g_idx O (g_v (i := 4)) g_int) (g_l1 (g_v (i := 8)) (g_l1 (g_op .add (s_sl (g_v (i := 7)) .none (.some (g_v (i := 9)))) (s_sl (g_v (i := 7)) (.some (g_op .add (g_v (i := 9)) g_int)) .none)) .nil)))))) (g_t O.nd (i := 4)))
  ss_nil) ss_nil)
  (ss_cons (ss_if (g_and (g_l1 (g_cmp O .eq (g_op .mod (g_v (i := 3)) g_int) g_int) (g_l1 (g_cmp O .ne (g_v (i := 7)) (g_val (g_lst .nil))) .nil))) (ss_cons (g_asg (g_idx O (g_v (i := 7)) (g_v (i := 9))) (g_t O.nd (i := 11)))
  (ss_cons (g_asg (g_tup (g_l1 (g_v (i := 1)) (g_l1 (g_v (i := 2)) (g_l1 (g_idx O (g_v (i := 4)) g_int) (g_l1 (g_v (i := 8)) (g_l1 (g_op .add (g_v (i := 7)) (g_val (g_lst (g_l1 (g_op .add (s_sl (g_v (i := 11)) .none (.some (s_neg g_int))) (g_tup (g_l1 (g_op .mod (g_op .add (g_idx O (g_v (i := 11)) (s_neg g_int)) g_int) (g_v (i := 2))) .nil))) .nil)))) .nil)))))) (g_t O.nd (i := 4)))
  ss_nil)) ss_nil)
  (ss_cons (ss_if (g_cmp O .eq (g_op .mod (g_v (i := 3)) g_int) g_int) (ss_cons (g_asg (g_tup (g_l1 (g_v (i := 1)) (g_l1 (g_v (i := 2)) (g_l1 (g_val (g_lst .nil)) (g_l1 (g_v (i := 8)) (g_l1 (g_v (i := 7)) .nil)))))) (g_t O.nd (i := 4)))
  ss_nil) ss_nil)
  (ss_cons (ss_if (g_and (g_l1 (g_cmp O .eq (g_op .mod (g_v (i := 3)) g_int) g_int) (g_l1 (g_cmp O .gt (g_v (i := 2)) g_int) .nil))) (ss_cons (g_asg (g_tup (g_l1 (g_v (i := 1)) (g_l1 (g_v (i := 2)) (g_l1 (g_val (g_lst (g_l1 g_int (g_l1 (g_op .sub (g_v (i := 2)) g_int) .nil)))) (g_l1 (g_v (i := 8)) (g_l1 (g_v (i := 7)) .nil)))))) (g_t O.nd (i := 4)))
  ss_nil) ss_nil)
  ss_nil)))))))) ss_nil)
  (ss_cons (g_asg (g_call O (G__law_made.at hr (by decide)) (g_ai (g_v (i := 4)) sa_nil)) (g_t O.nd (i := 5)))
  (ss_cons (g_for O (passes_of rfl) (g_rng1 O g_int) (g_t O.nd (i := 6)) (ss_cons (g_asg (g_call O (G_is_plain.at hr (by decide)) (g_ai (g_v (i := 5)) sa_nil)) (g_t O.nd (i := 10)))
  (ss_cons (ss_if (g_or (g_l1 (s_not (g_isi O (t := "bool") (g_v (i := 10)) O.blt.bool)) (g_l1 (g_cmp O .ne (g_v (i := 10)) (g_call O (G__law_is_plain.at hr (by decide)) (g_ai (g_v (i := 4)) sa_nil))) .nil))) (ss_cons (ss_ret g_bl)
  ss_nil) ss_nil)
  ss_nil)))
  (ss_cons (ss_ret g_bl)
  ss_nil))))))))

theorem all_mk {w : World} {K : PySem.W.Frag} {h : Heap} {mg : Str → Option Value} {P : Program} {fa : Addr} (X : K.In h) (G : h.Ns mainGlobals mg) (hfa : mg "law" = some (.ref fa)) (hL : ∀ ns : List Int, ns.length ≤ 63 → E_law.F [.scr ns] = .ok (.bl true, []))
    {c0 c2 CM : Addr}
    {t0 t1 t2 t3 : Tok}
    {f0 : Addr} {od0 an0 : Option Addr} {sl0 : Array (Option Value)} {oc0 kV0 dc0 pm0 cd0 ct0 : Value}
    {f1 : Addr} {od1 an1 : Option Addr} {sl1 : Array (Option Value)} {oc1 kV1 dc1 pm1 cd1 ct1 : Value}
    {f2 : Addr} {od2 an2 : Option Addr} {sl2 : Array (Option Value)} {oc2 kV2 dc2 pm2 cd2 ct2 : Value}
    {f3 : Addr} {od3 an3 : Option Addr} {sl3 : Array (Option Value)} {oc3 kV3 dc3 pm3 cd3 ct3 : Value}
    {f4 : Addr} {od4 an4 : Option Addr} {sl4 : Array (Option Value)} {oc4 kV4 dc4 pm4 cd4 ct4 : Value}
    {f5 : Addr} {od5 an5 : Option Addr} {sl5 : Array (Option Value)} {oc5 kV5 dc5 pm5 cd5 ct5 : Value}
    {f6 : Addr} {od6 an6 : Option Addr} {sl6 : Array (Option Value)} {oc6 kV6 dc6 pm6 cd6 ct6 : Value}
    {f7 : Addr} {od7 an7 : Option Addr} {sl7 : Array (Option Value)} {oc7 kV7 dc7 pm7 cd7 ct7 : Value}
    {f8 : Addr} {od8 an8 : Option Addr} {sl8 : Array (Option Value)} {oc8 kV8 dc8 pm8 cd8 ct8 : Value}
    {f9 : Addr} {od9 an9 : Option Addr} {sl9 : Array (Option Value)} {oc9 kV9 dc9 pm9 cd9 ct9 : Value}
    {f10 : Addr} {od10 an10 : Option Addr} {sl10 : Array (Option Value)} {oc10 kV10 dc10 pm10 cd10 ct10 : Value}
    {f11 : Addr} {od11 an11 : Option Addr} {sl11 : Array (Option Value)} {oc11 kV11 dc11 pm11 cd11 ct11 : Value}
    {f12 : Addr} {od12 an12 : Option Addr} {sl12 : Array (Option Value)} {oc12 kV12 dc12 pm12 cd12 ct12 : Value}
    {f13 : Addr} {od13 an13 : Option Addr} {sl13 : Array (Option Value)} {oc13 kV13 dc13 pm13 cd13 ct13 : Value}
    {f14 : Addr} {od14 an14 : Option Addr} {sl14 : Array (Option Value)} {oc14 kV14 dc14 pm14 cd14 ct14 : Value}
    {f15 : Addr} {od15 an15 : Option Addr} {sl15 : Array (Option Value)} {oc15 kV15 dc15 pm15 cd15 ct15 : Value}
    {f16 : Addr} {od16 an16 : Option Addr} {sl16 : Array (Option Value)} {oc16 kV16 dc16 pm16 cd16 ct16 : Value}
    {f17 : Addr} {od17 an17 : Option Addr} {sl17 : Array (Option Value)} {oc17 kV17 dc17 pm17 cd17 ct17 : Value}
    {f18 : Addr} {od18 an18 : Option Addr} {sl18 : Array (Option Value)} {oc18 kV18 dc18 pm18 cd18 ct18 : Value}
    {f19 : Addr} {od19 an19 : Option Addr} {sl19 : Array (Option Value)} {oc19 kV19 dc19 pm19 cd19 ct19 : Value}
    {f20 : Addr} {od20 an20 : Option Addr} {sl20 : Array (Option Value)} {oc20 kV20 dc20 pm20 cd20 ct20 : Value}
    {f21 : Addr} {od21 an21 : Option Addr} {sl21 : Array (Option Value)} {oc21 kV21 dc21 pm21 cd21 ct21 : Value}
    {f22 : Addr} {od22 an22 : Option Addr} {sl22 : Array (Option Value)} {oc22 kV22 dc22 pm22 cd22 ct22 : Value}
    {f23 : Addr} {od23 an23 : Option Addr} {sl23 : Array (Option Value)} {oc23 kV23 dc23 pm23 cd23 ct23 : Value}
    {f24 : Addr} {od24 an24 : Option Addr} {sl24 : Array (Option Value)} {oc24 kV24 dc24 pm24 cd24 ct24 : Value}
    (mA : PySem.W.nsIn K mainGlobals "Machine" = some (some (.ref CM)))
    (a0 : PySem.W.nsIn K mainGlobals "are_letters" = some (some (.ref f0)))
    (l0 : K.lookup f0 = some ⟨oc0, od0, .func (PySem.W.fnOf "are_letters" "are_letters" (defArgs s_are_letters) (defBody s_are_letters) (defScope s_are_letters) .none kV0 dc0 pm0 an0 cd0 ct0), sl0⟩)
    (d0 : PySem.W.codeIn K cd0 "are_letters" = true)
    (k0 : PySem.W.keepIn K (.ref f0) = true)
    (a1 : PySem.W.nsIn K mainGlobals "is_signs" = some (some (.ref f1)))
    (l1 : K.lookup f1 = some ⟨oc1, od1, .func (PySem.W.fnOf "is_signs" "is_signs" (defArgs s_is_signs) (defBody s_is_signs) (defScope s_is_signs) .none kV1 dc1 pm1 an1 cd1 ct1), sl1⟩)
    (d1 : PySem.W.codeIn K cd1 "is_signs" = true)
    (k1 : PySem.W.keepIn K (.ref f1) = true)
    (a2 : PySem.W.nsIn K mainGlobals "need_signs" = some (some (.ref f2)))
    (l2 : K.lookup f2 = some ⟨oc2, od2, .func (PySem.W.fnOf "need_signs" "need_signs" (defArgs s_need_signs) (defBody s_need_signs) (defScope s_need_signs) .none kV2 dc2 pm2 an2 cd2 ct2), sl2⟩)
    (d2 : PySem.W.codeIn K cd2 "need_signs" = true)
    (k2 : PySem.W.keepIn K (.ref f2) = true)
    (a3 : PySem.W.nsIn K mainGlobals "kind_of" = some (some (.ref f3)))
    (l3 : K.lookup f3 = some ⟨oc3, od3, .func (PySem.W.fnOf "kind_of" "kind_of" (defArgs s_kind_of) (defBody s_kind_of) (defScope s_kind_of) .none kV3 dc3 pm3 an3 cd3 ct3), sl3⟩)
    (d3 : PySem.W.codeIn K cd3 "kind_of" = true)
    (k3 : PySem.W.keepIn K (.ref f3) = true)
    (a4 : PySem.W.nsIn K mainGlobals "is_room" = some (some (.ref f4)))
    (l4 : K.lookup f4 = some ⟨oc4, od4, .func (PySem.W.fnOf "is_room" "is_room" (defArgs s_is_room) (defBody s_is_room) (defScope s_is_room) .none kV4 dc4 pm4 an4 cd4 ct4), sl4⟩)
    (d4 : PySem.W.codeIn K cd4 "is_room" = true)
    (k4 : PySem.W.keepIn K (.ref f4) = true)
    (a5 : PySem.W.nsIn K mainGlobals "are_rooms" = some (some (.ref f5)))
    (l5 : K.lookup f5 = some ⟨oc5, od5, .func (PySem.W.fnOf "are_rooms" "are_rooms" (defArgs s_are_rooms) (defBody s_are_rooms) (defScope s_are_rooms) .none kV5 dc5 pm5 an5 cd5 ct5), sl5⟩)
    (d5 : PySem.W.codeIn K cd5 "are_rooms" = true)
    (k5 : PySem.W.keepIn K (.ref f5) = true)
    (a6 : PySem.W.nsIn K mainGlobals "is_way" = some (some (.ref f6)))
    (l6 : K.lookup f6 = some ⟨oc6, od6, .func (PySem.W.fnOf "is_way" "is_way" (defArgs s_is_way) (defBody s_is_way) (defScope s_is_way) .none kV6 dc6 pm6 an6 cd6 ct6), sl6⟩)
    (d6 : PySem.W.codeIn K cd6 "is_way" = true)
    (k6 : PySem.W.keepIn K (.ref f6) = true)
    (a7 : PySem.W.findIn K (.ref CM) "__init__" = some (some (.ref f7)))
    (i7 : PySem.W.isFn K (.ref f7) = true)
    (l7 : K.lookup f7 = some ⟨oc7, od7, .func (PySem.W.fnOf "__init__" "Machine.__init__" (defArgs s_Machine___init__) (defBody s_Machine___init__) (defScope s_Machine___init__) .none kV7 dc7 pm7 an7 cd7 ct7), sl7⟩)
    (d7 : PySem.W.codeIn K cd7 "Machine.__init__" = true)
    (k7 : PySem.W.keepIn K (.ref f7) = true)
    (a8 : PySem.W.findIn K (.ref CM) "signs" = some (some (.ref f8)))
    (i8 : PySem.W.isFn K (.ref f8) = true)
    (l8 : K.lookup f8 = some ⟨oc8, od8, .func (PySem.W.fnOf "signs" "Machine.signs" (defArgs s_Machine_signs) (defBody s_Machine_signs) (defScope s_Machine_signs) .none kV8 dc8 pm8 an8 cd8 ct8), sl8⟩)
    (d8 : PySem.W.codeIn K cd8 "Machine.signs" = true)
    (k8 : PySem.W.keepIn K (.ref f8) = true)
    (a9 : PySem.W.findIn K (.ref CM) "rooms" = some (some (.ref f9)))
    (i9 : PySem.W.isFn K (.ref f9) = true)
    (l9 : K.lookup f9 = some ⟨oc9, od9, .func (PySem.W.fnOf "rooms" "Machine.rooms" (defArgs s_Machine_rooms) (defBody s_Machine_rooms) (defScope s_Machine_rooms) .none kV9 dc9 pm9 an9 cd9 ct9), sl9⟩)
    (d9 : PySem.W.codeIn K cd9 "Machine.rooms" = true)
    (k9 : PySem.W.keepIn K (.ref f9) = true)
    (a10 : PySem.W.findIn K (.ref CM) "starts" = some (some (.ref f10)))
    (i10 : PySem.W.isFn K (.ref f10) = true)
    (l10 : K.lookup f10 = some ⟨oc10, od10, .func (PySem.W.fnOf "starts" "Machine.starts" (defArgs s_Machine_starts) (defBody s_Machine_starts) (defScope s_Machine_starts) .none kV10 dc10 pm10 an10 cd10 ct10), sl10⟩)
    (d10 : PySem.W.codeIn K cd10 "Machine.starts" = true)
    (k10 : PySem.W.keepIn K (.ref f10) = true)
    (a11 : PySem.W.findIn K (.ref CM) "ends" = some (some (.ref f11)))
    (i11 : PySem.W.isFn K (.ref f11) = true)
    (l11 : K.lookup f11 = some ⟨oc11, od11, .func (PySem.W.fnOf "ends" "Machine.ends" (defArgs s_Machine_ends) (defBody s_Machine_ends) (defScope s_Machine_ends) .none kV11 dc11 pm11 an11 cd11 ct11), sl11⟩)
    (d11 : PySem.W.codeIn K cd11 "Machine.ends" = true)
    (k11 : PySem.W.keepIn K (.ref f11) = true)
    (a12 : PySem.W.findIn K (.ref CM) "ways" = some (some (.ref f12)))
    (i12 : PySem.W.isFn K (.ref f12) = true)
    (l12 : K.lookup f12 = some ⟨oc12, od12, .func (PySem.W.fnOf "ways" "Machine.ways" (defArgs s_Machine_ways) (defBody s_Machine_ways) (defScope s_Machine_ways) .none kV12 dc12 pm12 an12 cd12 ct12), sl12⟩)
    (d12 : PySem.W.codeIn K cd12 "Machine.ways" = true)
    (k12 : PySem.W.keepIn K (.ref f12) = true)
    (a13 : PySem.W.nsIn K mainGlobals "index_of" = some (some (.ref f13)))
    (l13 : K.lookup f13 = some ⟨oc13, od13, .func (PySem.W.fnOf "index_of" "index_of" (defArgs s_index_of) (defBody s_index_of) (defScope s_index_of) .none kV13 dc13 pm13 an13 cd13 ct13), sl13⟩)
    (d13 : PySem.W.codeIn K cd13 "index_of" = true)
    (k13 : PySem.W.keepIn K (.ref f13) = true)
    (a14 : PySem.W.nsIn K mainGlobals "is_plain" = some (some (.ref f14)))
    (l14 : K.lookup f14 = some ⟨oc14, od14, .func (PySem.W.fnOf "is_plain" "is_plain" (defArgs s_is_plain) (defBody s_is_plain) (defScope s_is_plain) .none kV14 dc14 pm14 an14 cd14 ct14), sl14⟩)
    (d14 : PySem.W.codeIn K cd14 "is_plain" = true)
    (k14 : PySem.W.keepIn K (.ref f14) = true)
    (a15 : PySem.W.nsIn K mainGlobals "_law_cell_at" = some (some (.ref f15)))
    (l15 : K.lookup f15 = some ⟨oc15, od15, .func (PySem.W.fnOf "_law_cell_at" "_law_cell_at" (defArgs s__law_cell_at) (defBody s__law_cell_at) (defScope s__law_cell_at) .none kV15 dc15 pm15 an15 cd15 ct15), sl15⟩)
    (d15 : PySem.W.codeIn K cd15 "_law_cell_at" = true)
    (k15 : PySem.W.keepIn K (.ref f15) = true)
    (a16 : PySem.W.nsIn K mainGlobals "_law_mixed" = some (some (.ref f16)))
    (l16 : K.lookup f16 = some ⟨oc16, od16, .func (PySem.W.fnOf "_law_mixed" "_law_mixed" (defArgs s__law_mixed) (defBody s__law_mixed) (defScope s__law_mixed) .none kV16 dc16 pm16 an16 cd16 ct16), sl16⟩)
    (d16 : PySem.W.codeIn K cd16 "_law_mixed" = true)
    (k16 : PySem.W.keepIn K (.ref f16) = true)
    (a17 : PySem.W.nsIn K mainGlobals "_law_signs_by" = some (some (.ref f17)))
    (l17 : K.lookup f17 = some ⟨oc17, od17, .func (PySem.W.fnOf "_law_signs_by" "_law_signs_by" (defArgs s__law_signs_by) (defBody s__law_signs_by) (defScope s__law_signs_by) .none kV17 dc17 pm17 an17 cd17 ct17), sl17⟩)
    (d17 : PySem.W.codeIn K cd17 "_law_signs_by" = true)
    (k17 : PySem.W.keepIn K (.ref f17) = true)
    (a18 : PySem.W.nsIn K mainGlobals "_law_any_signs_by" = some (some (.ref f18)))
    (l18 : K.lookup f18 = some ⟨oc18, od18, .func (PySem.W.fnOf "_law_any_signs_by" "_law_any_signs_by" (defArgs s__law_any_signs_by) (defBody s__law_any_signs_by) (defScope s__law_any_signs_by) .none kV18 dc18 pm18 an18 cd18 ct18), sl18⟩)
    (d18 : PySem.W.codeIn K cd18 "_law_any_signs_by" = true)
    (k18 : PySem.W.keepIn K (.ref f18) = true)
    (a19 : PySem.W.nsIn K mainGlobals "_law_way_by" = some (some (.ref f19)))
    (l19 : K.lookup f19 = some ⟨oc19, od19, .func (PySem.W.fnOf "_law_way_by" "_law_way_by" (defArgs s__law_way_by) (defBody s__law_way_by) (defScope s__law_way_by) .none kV19 dc19 pm19 an19 cd19 ct19), sl19⟩)
    (d19 : PySem.W.codeIn K cd19 "_law_way_by" = true)
    (k19 : PySem.W.keepIn K (.ref f19) = true)
    (a20 : PySem.W.nsIn K mainGlobals "_law_parts_by" = some (some (.ref f20)))
    (l20 : K.lookup f20 = some ⟨oc20, od20, .func (PySem.W.fnOf "_law_parts_by" "_law_parts_by" (defArgs s__law_parts_by) (defBody s__law_parts_by) (defScope s__law_parts_by) .none kV20 dc20 pm20 an20 cd20 ct20), sl20⟩)
    (d20 : PySem.W.codeIn K cd20 "_law_parts_by" = true)
    (k20 : PySem.W.keepIn K (.ref f20) = true)
    (a21 : PySem.W.nsIn K mainGlobals "_law_made" = some (some (.ref f21)))
    (l21 : K.lookup f21 = some ⟨oc21, od21, .func (PySem.W.fnOf "_law_made" "_law_made" (defArgs s__law_made) (defBody s__law_made) (defScope s__law_made) .none kV21 dc21 pm21 an21 cd21 ct21), sl21⟩)
    (d21 : PySem.W.codeIn K cd21 "_law_made" = true)
    (k21 : PySem.W.keepIn K (.ref f21) = true)
    (a22 : PySem.W.nsIn K mainGlobals "_law_full" = some (some (.ref f22)))
    (l22 : K.lookup f22 = some ⟨oc22, od22, .func (PySem.W.fnOf "_law_full" "_law_full" (defArgs s__law_full) (defBody s__law_full) (defScope s__law_full) .none kV22 dc22 pm22 an22 cd22 ct22), sl22⟩)
    (d22 : PySem.W.codeIn K cd22 "_law_full" = true)
    (k22 : PySem.W.keepIn K (.ref f22) = true)
    (a23 : PySem.W.nsIn K mainGlobals "_law_is_plain" = some (some (.ref f23)))
    (l23 : K.lookup f23 = some ⟨oc23, od23, .func (PySem.W.fnOf "_law_is_plain" "_law_is_plain" (defArgs s__law_is_plain) (defBody s__law_is_plain) (defScope s__law_is_plain) .none kV23 dc23 pm23 an23 cd23 ct23), sl23⟩)
    (d23 : PySem.W.codeIn K cd23 "_law_is_plain" = true)
    (k23 : PySem.W.keepIn K (.ref f23) = true)
    (a24 : PySem.W.nsIn K mainGlobals "law" = some (some (.ref f24)))
    (l24 : K.lookup f24 = some ⟨oc24, od24, .func (PySem.W.fnOf "law" "law" (defArgs s_law) (defBody s_law) (defScope s_law) .none kV24 dc24 pm24 an24 cd24 ct24), sl24⟩)
    (d24 : PySem.W.codeIn K cd24 "law" = true)
    (k24 : PySem.W.keepIn K (.ref f24) = true)
    (q0 : PySem.W.nsIn K mainGlobals "LETTERS" = some (some (.str "abcdefghijklmnopqrstuvwxyz" t0)))
    (q1 : PySem.W.nsIn K mainGlobals "MOST_SIGNS" = some (some (.int 4 t1)))
    (q2 : PySem.W.nsIn K mainGlobals "MOST_ROOMS" = some (some (.int 40 t2)))
    (q3 : PySem.W.nsIn K mainGlobals "MOST_WAYS" = some (some (.int 4000 t3)))
    (z_len : PySem.W.nsIn K mainGlobals "len" = some none)
    (z_all : PySem.W.nsIn K mainGlobals "all" = some none)
    (z_any : PySem.W.nsIn K mainGlobals "any" = some none)
    (z_int : PySem.W.nsIn K mainGlobals "int" = some none)
    (z_tuple : PySem.W.nsIn K mainGlobals "tuple" = some none)
    (z_list : PySem.W.nsIn K mainGlobals "list" = some none)
    (z_isinstance : PySem.W.nsIn K mainGlobals "isinstance" = some none)
    (z_range : PySem.W.nsIn K mainGlobals "range" = some none)
    (z_zip : PySem.W.nsIn K mainGlobals "zip" = some none)
    (z_enumerate : PySem.W.nsIn K mainGlobals "enumerate" = some none)
    (z_set : PySem.W.nsIn K mainGlobals "set" = some none)
    (z_str : PySem.W.nsIn K mainGlobals "str" = some none)
    (z_bool : PySem.W.nsIn K mainGlobals "bool" = some none)
    (z_max : PySem.W.nsIn K mainGlobals "max" = some none)
    (z_sorted : PySem.W.nsIn K mainGlobals "sorted" = some none)
    (gs : PySem.W.specialIn K (.builtin "object.__class__") "__get__" = some (some (.builtin "getset_descriptor.__get__")))
    (tk : PySem.W.takesIn K (.builtin "object.__class__") = some true)
    (mpg : PySem.W.plainGet K CM Str.empty = true)
    (mhd : PySem.W.hasDictIn K CM = true)
    (mpo : PySem.W.plainOver K CM = true)
    (msa : PySem.W.findIn K (.ref CM) "__setattr__" = some (some (.builtin "object.__setattr__")))
    (mmk : PySem.W.makesIn K CM = true)
    (mkc : PySem.W.keepIn K (.ref CM) = true)
    (mha : PySem.W.findIn K (.ref CM) "__class__" = some (some (.builtin "object.__class__")))
    (mhm : PySem.W.mroIn K CM (.type "object") = some true)
    (mic : PySem.W.isClsIn K CM = true)
    (mty : PySem.W.typeIn K (.ref CM) = some (.type "type"))
    (mf0 : PySem.W.findIn K (.ref CM) "alphabet" = some none)
    (mf1 : PySem.W.findIn K (.ref CM) "size" = some none)
    (mf2 : PySem.W.findIn K (.ref CM) "begun" = some none)
    (mf3 : PySem.W.findIn K (.ref CM) "over" = some none)
    (mf4 : PySem.W.findIn K (.ref CM) "rows" = some none)
    (mt0 : PySem.W.subIn K (.ref CM) (.type "str") = some false)
    (mt1 : PySem.W.subIn K (.ref CM) (.type "int") = some false)
    (mt2 : PySem.W.subIn K (.ref CM) (.type "bool") = some false)
    (mt3 : PySem.W.subIn K (.ref CM) (.type "tuple") = some false)
    (mt4 : PySem.W.subIn K (.ref CM) (.type "list") = some false)
    (mu0 : PySem.W.subIn K (.type "NoneType") (.ref CM) = some false)
    (mu1 : PySem.W.subIn K (.type "bool") (.ref CM) = some false)
    (mu2 : PySem.W.subIn K (.type "int") (.ref CM) = some false)
    (mu3 : PySem.W.subIn K (.type "str") (.ref CM) = some false)
    (mu4 : PySem.W.subIn K (.type "list") (.ref CM) = some false)
    (mu5 : PySem.W.subIn K (.type "tuple") (.ref CM) = some false)
    (mu6 : PySem.W.subIn K (.type "dict") (.ref CM) = some false)
    (e0 : PySem.W.nsIn K mainGlobals "BadSigns" = some (some (.ref c0)))
    (eA0 : PySem.W.excIn K c0 [.type "ValueError", .type "Exception", .type "BaseException", .type "object"] "ValueError.__new__" = true)
    (eB0 : PySem.W.keepIn K (.ref c0) = true)
    (eC0 : PySem.W.subIn K (.ref c0) (.type "BaseException") = some true)
    (eD0 : PySem.W.typeIn K (.ref c0) = some (.type "type"))
    (eE0 : PySem.W.isClsIn K c0 = true)
    (eF0 : PySem.W.findIn K (.ref c0) "__getattribute__" = some (some (.builtin "BaseException.__getattribute__")))
    (eG0 : PySem.W.findIn K (.ref c0) "__getattr__" = some none)
    (eH0 : PySem.W.hasDictIn K c0 = true)
    (eI0 : PySem.W.findIn K (.ref c0) "__class__" = some (some (.builtin "object.__class__")))
    (eJ0 : PySem.W.mroIn K c0 (.type "object") = some true)
    (eK0 : PySem.W.subIn K (.ref c0) (.type "ValueError") = some true)
    (e2 : PySem.W.nsIn K mainGlobals "BadMachine" = some (some (.ref c2)))
    (eA2 : PySem.W.excIn K c2 [.type "ValueError", .type "Exception", .type "BaseException", .type "object"] "ValueError.__new__" = true)
    (eB2 : PySem.W.keepIn K (.ref c2) = true)
    (eC2 : PySem.W.subIn K (.ref c2) (.type "BaseException") = some true)
    (eD2 : PySem.W.typeIn K (.ref c2) = some (.type "type"))
    (eE2 : PySem.W.isClsIn K c2 = true)
    (eF2 : PySem.W.findIn K (.ref c2) "__getattribute__" = some (some (.builtin "BaseException.__getattribute__")))
    (eG2 : PySem.W.findIn K (.ref c2) "__getattr__" = some none)
    (eH2 : PySem.W.hasDictIn K c2 = true)
    (eI2 : PySem.W.findIn K (.ref c2) "__class__" = some (some (.builtin "object.__class__")))
    (eJ2 : PySem.W.mroIn K c2 (.type "object") = some true)
    (eK2 : PySem.W.subIn K (.ref c2) (.type "ValueError") = some true)
    : ∃ fd : FuncData, (∀ (s : Shared) (u : Value), BindsTo s fd ⟨[u], []⟩ [("_law_script", u)]) ∧ ∀ base : Heap, K.In base → base.Ns mainGlobals mg → FnOk P w K mg base (L2N.CX P w) 7 fa fd ["_law_script"] (spTop K) := by
  have e := hfa.symm.trans (PySem.W.mg_of X G a24)
  cases e
  have W0 : ExcW K mg (Str.ofString "BadSigns") c0 := ⟨PySem.W.mg_of X G e0, eA0, eB0, eC0, eD0, eE0, eF0, eG0, eH0, eI0, eJ0, eK0⟩
  have W2 : ExcW K mg (Str.ofString "BadMachine") c2 := ⟨PySem.W.mg_of X G e2, eA2, eB2, eC2, eD2, eE2, eF2, eG2, eH2, eI2, eJ2, eK2⟩
  have M : MachW K mg CM := ⟨PySem.W.mg_of X G mA, ⟨mpg, mhd, mpo, msa⟩, mmk, mkc, mha, mhm, mic, mty, mf0, mf1, mf2, mf3, mf4, mt0, mt1, mt2, mt3, mt4, mu0, mu1, mu2, mu3, mu4, mu5, mu6⟩
  have B : Bas K mg := bas_M ⟨PySem.W.mg_none_of X G z_len, PySem.W.mg_none_of X G z_all, PySem.W.mg_none_of X G z_any, PySem.W.mg_none_of X G z_int, PySem.W.mg_none_of X G z_tuple, PySem.W.mg_none_of X G z_list, PySem.W.mg_none_of X G z_isinstance, PySem.W.mg_none_of X G z_range, PySem.W.mg_none_of X G z_zip, PySem.W.mg_none_of X G z_enumerate, PySem.W.mg_none_of X G z_set, PySem.W.mg_none_of X G z_str, PySem.W.mg_none_of X G z_bool⟩ M gs tk
  have T : Txt K mg := ⟨B, ⟨t0, PySem.W.mg_of X G q0⟩, ⟨t1, PySem.W.mg_of X G q1⟩, ⟨t2, PySem.W.mg_of X G q2⟩, ⟨t3, PySem.W.mg_of X G q3⟩, W2.exc, W0.exc, PySem.W.mg_none_of X G z_max, PySem.W.mg_none_of X G z_sorted⟩
  have F0 := fun_mk (st := s_are_letters) l0 d0 k0
  have F1 := fun_mk (st := s_is_signs) l1 d1 k1
  have F2 := fun_mk (st := s_need_signs) l2 d2 k2
  have F3 := fun_mk (st := s_kind_of) l3 d3 k3
  have F4 := fun_mk (st := s_is_room) l4 d4 k4
  have F5 := fun_mk (st := s_are_rooms) l5 d5 k5
  have F6 := fun_mk (st := s_is_way) l6 d6 k6
  have F7 := fun_mk (st := s_Machine___init__) l7 d7 k7
  have F8 := fun_mk (st := s_Machine_signs) l8 d8 k8
  have F9 := fun_mk (st := s_Machine_rooms) l9 d9 k9
  have F10 := fun_mk (st := s_Machine_starts) l10 d10 k10
  have F11 := fun_mk (st := s_Machine_ends) l11 d11 k11
  have F12 := fun_mk (st := s_Machine_ways) l12 d12 k12
  have F13 := fun_mk (st := s_index_of) l13 d13 k13
  have F14 := fun_mk (st := s_is_plain) l14 d14 k14
  have F15 := fun_mk (st := s__law_cell_at) l15 d15 k15
  have F16 := fun_mk (st := s__law_mixed) l16 d16 k16
  have F17 := fun_mk (st := s__law_signs_by) l17 d17 k17
  have F18 := fun_mk (st := s__law_any_signs_by) l18 d18 k18
  have F19 := fun_mk (st := s__law_way_by) l19 d19 k19
  have F20 := fun_mk (st := s__law_parts_by) l20 d20 k20
  have F21 := fun_mk (st := s__law_made) l21 d21 k21
  have F22 := fun_mk (st := s__law_full) l22 d22 k22
  have F23 := fun_mk (st := s__law_is_plain) l23 d23 k23
  have F24 := fun_mk (st := s_law) l24 d24 k24
  have b0 := F0.binds (ps := ["thing"]) fun _ _ _ _ _ _ us hl => match us, hl with | [_], _ => rfl
  have b1 := F1.binds (ps := ["thing"]) fun _ _ _ _ _ _ us hl => match us, hl with | [_], _ => rfl
  have b2 := F2.binds (ps := ["signs"]) fun _ _ _ _ _ _ us hl => match us, hl with | [_], _ => rfl
  have b3 := F3.binds (ps := ["signs", "thing"]) fun _ _ _ _ _ _ us hl => match us, hl with | [_, _], _ => rfl
  have b4 := F4.binds (ps := ["thing", "rooms"]) fun _ _ _ _ _ _ us hl => match us, hl with | [_, _], _ => rfl
  have b5 := F5.binds (ps := ["thing", "rooms"]) fun _ _ _ _ _ _ us hl => match us, hl with | [_, _], _ => rfl
  have b6 := F6.binds (ps := ["thing", "signs", "rooms"]) fun _ _ _ _ _ _ us hl => match us, hl with | [_, _, _], _ => rfl
  have b7 := F7.binds (ps := ["self", "signs", "rooms", "starts", "ends", "ways"]) fun _ _ _ _ _ _ us hl => match us, hl with | [_, _, _, _, _, _], _ => rfl
  have b8 := F8.binds (ps := ["self"]) fun _ _ _ _ _ _ us hl => match us, hl with | [_], _ => rfl
  have b9 := F9.binds (ps := ["self"]) fun _ _ _ _ _ _ us hl => match us, hl with | [_], _ => rfl
  have b10 := F10.binds (ps := ["self"]) fun _ _ _ _ _ _ us hl => match us, hl with | [_], _ => rfl
  have b11 := F11.binds (ps := ["self"]) fun _ _ _ _ _ _ us hl => match us, hl with | [_], _ => rfl
  have b12 := F12.binds (ps := ["self"]) fun _ _ _ _ _ _ us hl => match us, hl with | [_], _ => rfl
  have b13 := F13.binds (ps := ["machine"]) fun _ _ _ _ _ _ us hl => match us, hl with | [_], _ => rfl
  have b14 := F14.binds (ps := ["machine"]) fun _ _ _ _ _ _ us hl => match us, hl with | [_], _ => rfl
  have b15 := F15.binds (ps := ["_law_script", "_law_k"]) fun _ _ _ _ _ _ us hl => match us, hl with | [_, _], _ => rfl
  have b16 := F16.binds (ps := ["_law_cell", "_law_k"]) fun _ _ _ _ _ _ us hl => match us, hl with | [_, _], _ => rfl
  have b17 := F17.binds (ps := ["_law_cell"]) fun _ _ _ _ _ _ us hl => match us, hl with | [_], _ => rfl
  have b18 := F18.binds (ps := ["_law_cell"]) fun _ _ _ _ _ _ us hl => match us, hl with | [_], _ => rfl
  have b19 := F19.binds (ps := ["_law_cell", "_law_signs", "_law_rooms", "_law_opens", "_law_most"]) fun _ _ _ _ _ _ us hl => match us, hl with | [_, _, _, _, _], _ => rfl
  have b20 := F20.binds (ps := ["_law_script", "_law_at", "_law_signs", "_law_most"]) fun _ _ _ _ _ _ us hl => match us, hl with | [_, _, _, _], _ => rfl
  have b21 := F21.binds (ps := ["_law_parts"]) fun _ _ _ _ _ _ us hl => match us, hl with | [_], _ => rfl
  have b22 := F22.binds (ps := ["_law_script", "_law_at", "_law_signs", "_law_rooms"]) fun _ _ _ _ _ _ us hl => match us, hl with | [_, _, _, _], _ => rfl
  have b23 := F23.binds (ps := ["_law_parts"]) fun _ _ _ _ _ _ us hl => match us, hl with | [_], _ => rfl
  refine ⟨PySem.W.fnOf "law" "law" (defArgs s_law) (defBody s_law) (defScope s_law) .none kV24 dc24 pm24 an24 cd24 ct24, fun s v => .of_eq rfl, fun base _ _ => ?_⟩
  have G_are_letters : FnG P w K mg base 1 "are_letters" PG.E_are_letters := g_are_letters T F0 (PySem.W.mg_of X G a0) b0
  have G_is_signs : FnG P w K mg base 2 "is_signs" PG.E_is_signs := g_is_signs T G_are_letters F1 (PySem.W.mg_of X G a1) b1
  have G_need_signs : FnG P w K mg base 3 "need_signs" PG.E_need_signs := g_need_signs T G_is_signs F2 (PySem.W.mg_of X G a2) b2
  have G_kind_of : FnG P w K mg base 1 "kind_of" PG.E_kind_of := g_kind_of T F3 (PySem.W.mg_of X G a3) b3
  have G_is_room : FnG P w K mg base 1 "is_room" PG.E_is_room := g_is_room T F4 (PySem.W.mg_of X G a4) b4
  have G_are_rooms : FnG P w K mg base 2 "are_rooms" PG.E_are_rooms := g_are_rooms T G_is_room F5 (PySem.W.mg_of X G a5) b5
  have G_is_way : FnG P w K mg base 2 "is_way" PG.E_is_way := g_is_way T G_is_room G_kind_of F6 (PySem.W.mg_of X G a6) b6
  have G_Machine___init__ : MakeG P w K mg base 4 "Machine" PG.E_Machine___init__ := g_Machine___init__ T M G_are_rooms G_is_room G_is_way G_need_signs F7 ⟨mmk, a7, i7, mkc⟩ b7
  have G_Machine_signs : MethG P w K mg base 1 "Machine" "signs" PG.E_Machine_signs := g_Machine_signs T M F8 ⟨a8, i8, k8⟩ b8
  have G_Machine_rooms : MethG P w K mg base 1 "Machine" "rooms" PG.E_Machine_rooms := g_Machine_rooms T M F9 ⟨a9, i9, k9⟩ b9
  have G_Machine_starts : MethG P w K mg base 1 "Machine" "starts" PG.E_Machine_starts := g_Machine_starts T M F10 ⟨a10, i10, k10⟩ b10
  have G_Machine_ends : MethG P w K mg base 1 "Machine" "ends" PG.E_Machine_ends := g_Machine_ends T M F11 ⟨a11, i11, k11⟩ b11
  have G_Machine_ways : MethG P w K mg base 1 "Machine" "ways" PG.E_Machine_ways := g_Machine_ways T M F12 ⟨a12, i12, k12⟩ b12
  have G_index_of : FnG P w K mg base 2 "index_of" PG.E_index_of := g_index_of T G_Machine_ways F13 (PySem.W.mg_of X G a13) b13
  have G_is_plain : FnG P w K mg base 3 "is_plain" PG.E_is_plain := g_is_plain T G_Machine_rooms G_Machine_signs G_Machine_starts G_index_of F14 (PySem.W.mg_of X G a14) b14
  have G__law_cell_at : FnG P w K mg base 1 "_law_cell_at" PG.E__law_cell_at := g__law_cell_at T F15 (PySem.W.mg_of X G a15) b15
  have G__law_mixed : FnG P w K mg base 1 "_law_mixed" PG.E__law_mixed := g__law_mixed T F16 (PySem.W.mg_of X G a16) b16
  have G__law_signs_by : FnG P w K mg base 1 "_law_signs_by" PG.E__law_signs_by := g__law_signs_by T F17 (PySem.W.mg_of X G a17) b17
  have G__law_any_signs_by : FnG P w K mg base 2 "_law_any_signs_by" PG.E__law_any_signs_by := g__law_any_signs_by T G__law_signs_by F18 (PySem.W.mg_of X G a18) b18
  have G__law_way_by : FnG P w K mg base 1 "_law_way_by" PG.E__law_way_by := g__law_way_by T F19 (PySem.W.mg_of X G a19) b19
  have G__law_parts_by : FnG P w K mg base 2 "_law_parts_by" PG.E__law_parts_by := g__law_parts_by T G__law_cell_at G__law_mixed G__law_way_by F20 (PySem.W.mg_of X G a20) b20
  have G__law_made : FnG P w K mg base 6 "_law_made" PG.E__law_made := g__law_made T G_Machine___init__ F21 (PySem.W.mg_of X G a21) b21
  have G__law_full : FnG P w K mg base 2 "_law_full" E__law_full := g__law_full T G__law_cell_at G__law_mixed F22 (PySem.W.mg_of X G a22) b22
  have G__law_is_plain : FnG P w K mg base 1 "_law_is_plain" E__law_is_plain := g__law_is_plain T F23 (PySem.W.mg_of X G a23) b23
  exact top_ok rfl rfl (g_law (P := P) (w := w) (base := base) T G__law_any_signs_by G__law_cell_at G__law_full G__law_is_plain G__law_made G__law_mixed G__law_parts_by G_is_plain F24) hL
theorem walk {l : PySem.W.OpenLaw} {q : Program} {loose : List Str} {XP : (Str → Option Value) → Heap → Prop} {YP : World → Heap → Prop} {d : DefRec} {K : Params → PySem.W.Frag} (hn : l.most = some 63) (hdf : d.params.defaults = [])
    (hY : ∀ (w : World) (h : Heap), YP w h → (K w.params).In h)
    (F : ∀ (w : World) (mg : Str → Option Value) (fa : Addr) (h : Heap), (K w.params).In h → h.Ns mainGlobals mg → mg d.name = some (.ref fa) →
      ∃ fd : FuncData, (∀ (s : Shared) (u : Value), BindsTo s fd ⟨[u], []⟩ [("_law_script", u)]) ∧ ∀ base : Heap, (K w.params).In base → base.Ns mainGlobals mg → FnOk l.prog w (K w.params) mg base (L2N.CX l.prog w) 7 fa fd ["_law_script"] (spTop (K w.params))) :
    PySem.W.WalkO q loose XP YP l.row.toRowW d [] (fun f vs => PySem.call f vs) :=
  L2.walk_of (n := 63) (k := 7) (x := "_law_script") (CX := fun w => L2N.CX l.prog w) (sp := fun w => spTop (K w.params)) hn (by decide) hdf ⟨rfl, by decide, by decide⟩ hY F (fun _ _ a ns hl _ hS => ⟨a, ns, rfl, hS, hl, fun _ => rfl⟩) fun _ _ _ _ _ ⟨_, _, _, _, _, _, _, _, _, _, _, _, z⟩ => z
end
end K4

namespace K4
open NV PySem.W PG
theorem eqD_way (y w : Wy) : eqD y.d w.d = decide (y = w) := by
  cases y <;> cases w <;> simp [Wy.d, eqD, eqL] <;> (rw [Bool.eq_iff_iff]; simp; try omega)
theorem eqD_key (y w : Wy) : eqD (keyW y) (keyW w) = decide (keyW y = keyW w) := by
  cases y <;> cases w <;> simp [keyW, kOn, kOp, kCl, eqD, eqL] <;> (rw [Bool.eq_iff_iff]; simp; try omega)
theorem depK (w : Wy) : (keyW w).dep = 1 := by cases w <;> simp [keyW, kOn, kOp, kCl, D.dep, D.depL]
theorem depWy (w : Wy) : w.d.dep = 1 := by cases w <;> simp [Wy.d, D.dep, D.depL]
theorem depKs : ∀ l : List Wy, D.depL (l.map keyW) ≤ 1
  | [] => by simp [D.depL]
  | w :: l => by
    have := depKs l
    have h := depK w
    rw [List.map_cons]
    unfold D.depL
    omega
def pairD (w : Wy) : D := .tup [keyW w, w.d]
theorem met_wy (l : List Wy) (w : Wy) : metL l w = if l.any (fun y => decide (y = w)) then l else l ++ [w] := by
  unfold metL
  by_cases h : w ∈ l
  · rw [if_pos h, if_pos (by rw [List.any_eq_true]; exact ⟨w, h, by simp⟩)]
  · rw [if_neg h, if_neg (by rw [List.any_eq_true]; rintro ⟨y, hy, e⟩; simp at e; subst e; exact h hy)]
def lPl (S : Sg) (n : Nat) (st : List Nat) (l : List Wy) : Bool := decide (st.length = 1) && (decide (l.length = n * (S.1.length + S.2.2.length + n * S.2.1.length)) && ((l.map keyW).filter fun k => decide (1 < (l.map keyW).countP fun u => eqD u k)).isEmpty)
theorem law_is_plain_eq {S : Sg} {n : Nat} {st en : List Nat} {ws : List Wy} (hS : SgOk S) (hn : n ≤ 40) (hw : ws.length ≤ 4000) : E__law_is_plain.F [partsD S n st en ws] = .ok (.bl (lPl S n st (wsN ws)), []) := by
  rw [F__law_is_plain]
  have hr : rho0 [.im] [partsD S n st en ws] 12 = [.im (partsD S n st en ws), .un, .un, .un, .un, .un, .un, .un, .un, .un, .un, .un] := rfl
  have s1 : evS 0 (.asg (.tp [5, 6, 7, 8, 9]) (.var 0)) [.im (partsD S n st en ws), .un, .un, .un, .un, .un, .un, .un, .un, .un, .un, .un] = .ok (.nx, [.im (partsD S n st en ws), .un, .un, .un, .un, .im (sgT S), .im (.int n), .im (.lst (dn st)), .im (.lst (dn en)), .im (.lst (ws.map Wy.d)), .un, .un]) := rfl
  have s2 : evS 0 (.asgF 1 (.lst [])) [.im (partsD S n st en ws), .un, .un, .un, .un, .im (sgT S), .im (.int n), .im (.lst (dn st)), .im (.lst (dn en)), .im (.lst (ws.map Wy.d)), .un, .un] = .ok (.nx, [.im (partsD S n st en ws), .ow (.lst []), .un, .un, .un, .im (sgT S), .im (.int n), .im (.lst (dn st)), .im (.lst (dn en)), .im (.lst (ws.map Wy.d)), .un, .un]) := rfl
  have lp := for_loopI (body := evSs 0 [.ite (.cmp .notin (.var 2) (.comp (.idx (.var 10) (.cst (.int 1))) (.nm 10) .seq [(.var 1)] [] [10])) [.app 1 (.tup [(.ife (.cmp .eq (.idx (.var 2) (.cst (.int 0))) (.cst (.str [99, 108, 111, 115, 101]))) (.sl (.var 2) [] [(.cst (.int 4))]) (.sl (.var 2) [] [(.cst (.int 3))])), (.var 2)])] []]) (tg := .nm 2)
    (st := fun i (l : List Wy) ρ => ∃ e2, isUI e2 = true ∧ l.length ≤ i ∧ ρ = [.im (partsD S n st en ws), .ow (.lst (l.map pairD)), e2, .un, .un, .im (sgT S), .im (.int n), .im (.lst (dn st)), .im (.lst (dn en)), .im (.lst (ws.map Wy.d)), .un, .un])
    (g := fun l d => match ws.find? (fun w => decide (w.d = d)) with | some w => .inl (metL l w) | none => .inl l) 4000 (items := ws.map Wy.d) (i := 0) (s := []) (ρ := [.im (partsD S n st en ws), .ow (.lst []), .un, .un, .un, .im (sgT S), .im (.int n), .im (.lst (dn st)), .im (.lst (dn en)), .im (.lst (ws.map Wy.d)), .un, .un])
    (by rw [List.length_map]; omega) ⟨.un, rfl, Nat.le_refl _, rfl⟩ (fun i l ρ d hd hi ⟨e2, u2, hl, e⟩ => by
      subst e
      obtain ⟨w, hw1, rfl⟩ := List.mem_map.mp hd
      have hf : ws.find? (fun v => decide (v.d = w.d)) = some w := by
        cases q : ws.find? (fun v => decide (v.d = w.d)) with
        | none =>
          have := List.find?_eq_none.mp q w hw1
          simp at this
        | some v =>
          have := List.find?_some q
          simp at this
          rw [Wy.d_inj _ _ this]
      rw [hf]
      have c1 := compLoop_map (elt := ev (.idx (.var 10) (.cst (.int 1)))) (ifs := evIfs []) (tg := .nm 10) (own := [10]) (ρ := [.im (partsD S n st en ws), .br (.lst (l.map pairD)), .im w.d, .un, .un, .im (sgT S), .im (.int n), .im (.lst (dn st)), .im (.lst (dn en)), .im (.lst (ws.map Wy.d)), .un, .un])
        (f := fun d => match d with | .tup [_, b] => b | _ => .non) (items := l.map pairD) (fun d hd => by
          obtain ⟨v, _, rfl⟩ := List.mem_map.mp hd
          simp [compStep, pairD, idxD, wiped])
      have c2 : (l.map pairD).map (fun d => match d with | .tup [_, b] => b | _ => .non) = l.map Wy.d := by
        rw [List.map_map]
        exact List.map_congr_left fun v _ => rfl
      rw [c2] at c1
      have zl : l.length ≤ szl := by unfold szl; omega
      have zl2 : l.length < 16777215 := by omega
      have dw := depWy w
      have dl := depW l
      have i1 : inD w.d (.lst (l.map Wy.d)) = some (l.any fun y => decide (y = w)) := by
        show (if w.d.dep ≤ 60 ∧ D.depL (l.map Wy.d) ≤ 60 then some ((l.map Wy.d).any fun y => eqD y w.d) else none) = _
        rw [if_pos ⟨by omega, by omega⟩, List.any_map]
        simp only [Function.comp_def, eqD_way]
      have t1 : evS 0 (.ite (.cmp .notin (.var 2) (.comp (.idx (.var 10) (.cst (.int 1))) (.nm 10) .seq [(.var 1)] [] [10])) [.app 1 (.tup [(.ife (.cmp .eq (.idx (.var 2) (.cst (.int 0))) (.cst (.str [99, 108, 111, 115, 101]))) (.sl (.var 2) [] [(.cst (.int 4))]) (.sl (.var 2) [] [(.cst (.int 3))])), (.var 2)])] []) [.im (partsD S n st en ws), .ow (.lst (l.map pairD)), .im w.d, .un, .un, .im (sgT S), .im (.int n), .im (.lst (dn st)), .im (.lst (dn en)), .im (.lst (ws.map Wy.d)), .un, .un]
          = .ok (.nx, [.im (partsD S n st en ws), .ow (.lst ((metL l w).map pairD)), .im w.d, .un, .un, .im (sgT S), .im (.int n), .im (.lst (dn st)), .im (.lst (dn en)), .im (.lst (ws.map Wy.d)), .un, .un]) := by
        rw [met_wy]
        cases hq : l.any (fun y => decide (y = w)) with
        | true => simp [ev_comp, iterD, itemsD, lockE, unlockE, zl, c1, cmpD, i1, hq]
        | false =>
          have k1 : ∀ r s q, cutD [D.str sOn, D.int r, D.str s, D.int q] none (some 3) = [D.str sOn, D.int r, D.str s] := fun _ _ _ => rfl
          have k2 : ∀ r s q k, cutD [D.str sOpen, D.int r, D.str s, D.int q, D.int k] none (some 3) = [D.str sOpen, D.int r, D.str s] := fun _ _ _ _ => rfl
          have k3 : ∀ r k s q, cutD [D.str sClose, D.int r, D.int k, D.str s, D.int q] none (some 4) = [D.str sClose, D.int r, D.int k, D.str s] := fun _ _ _ _ => rfl
          cases w <;> simp [ev_comp, iterD, itemsD, lockE, unlockE, zl, c1, cmpD, i1, hq, evSs_cons, appW, zl2, pairD] <;> simp [Wy.d, idxD, cmpD, eqOk, eqD, D.dep, slD, k1, k2, k3, keyW, kOn, kOp, kCl, appW, zl2, pairD]
      refine ⟨[.im (partsD S n st en ws), .ow (.lst (l.map pairD)), .im w.d, .un, .un, .im (sgT S), .im (.int n), .im (.lst (dn st)), .im (.lst (dn en)), .im (.lst (ws.map Wy.d)), .un, .un], ?_, _, ?_, .im w.d, rfl, ?_, rfl⟩
      · rcases isUI_or u2 with rfl | ⟨d2, rfl⟩ <;> rfl
      · rw [evSs_step t1]; rfl
      · unfold metL
        split
        · omega
        · simp; omega)
  have lE : ∀ (m l : List Wy), (∀ w ∈ m, w ∈ ws) → loopE (fun (l : List Wy) d => (match ws.find? (fun w => decide (w.d = d)) with | some w => .inl (metL l w) | none => .inl l : List Wy ⊕ D)) l (m.map Wy.d) = .inl (m.foldl metL l) := by
    intro m
    induction m with
    | nil => intro l _; rfl
    | cons w m ih =>
      intro l h
      have hf : ws.find? (fun v => decide (v.d = w.d)) = some w := by
        cases q : ws.find? (fun v => decide (v.d = w.d)) with
        | none =>
          have := List.find?_eq_none.mp q w (h w List.mem_cons_self)
          simp at this
        | some v =>
          have := List.find?_some q
          simp at this
          rw [Wy.d_inj _ _ this]
      rw [List.map_cons]
      unfold loopE
      rw [hf]
      exact ih _ fun v hv => h v (List.mem_cons_of_mem _ hv)
  rw [lE ws [] fun w h => h] at lp
  obtain ⟨ρ', lp1, e2, u2, hl, rfl⟩ := lp
  have hl2 : (wsN ws).length ≤ 4000 := by have := wsN_len ws; omega
  have hwn : ws.foldl metL [] = wsN ws := rfl
  rw [hwn] at lp1 hl
  generalize wsN ws = l at lp1 hl hl2
  have s3 : evS 0 (.for (.nm 2) .seq [(.var 9)] [.ite (.cmp .notin (.var 2) (.comp (.idx (.var 10) (.cst (.int 1))) (.nm 10) .seq [(.var 1)] [] [10])) [.app 1 (.tup [(.ife (.cmp .eq (.idx (.var 2) (.cst (.int 0))) (.cst (.str [99, 108, 111, 115, 101]))) (.sl (.var 2) [] [(.cst (.int 4))]) (.sl (.var 2) [] [(.cst (.int 3))])), (.var 2)])] []]) [.im (partsD S n st en ws), .ow (.lst []), .un, .un, .un, .im (sgT S), .im (.int n), .im (.lst (dn st)), .im (.lst (dn en)), .im (.lst (ws.map Wy.d)), .un, .un] =
      .ok (.nx, [.im (partsD S n st en ws), .ow (.lst (l.map pairD)), e2, .un, .un, .im (sgT S), .im (.int n), .im (.lst (dn st)), .im (.lst (dn en)), .im (.lst (ws.map Wy.d)), .un, .un]) := by
    rw [evS_for]
    have p1 : pres [(.var 9)] [.im (partsD S n st en ws), .ow (.lst []), .un, .un, .un, .im (sgT S), .im (.int n), .im (.lst (dn st)), .im (.lst (dn en)), .im (.lst (ws.map Wy.d)), .un, .un] = .ok ([none], [.im (partsD S n st en ws), .ow (.lst []), .un, .un, .un, .im (sgT S), .im (.int n), .im (.lst (dn st)), .im (.lst (dn en)), .im (.lst (ws.map Wy.d)), .un, .un]) := rfl
    rw [p1]
    simp only [Out.bind_ok]
    have p2 : (finL [(.var 9)] [none] [.im (partsD S n st en ws), .ow (.lst []), .un, .un, .un, .im (sgT S), .im (.int n), .im (.lst (dn st)), .im (.lst (dn en)), .im (.lst (ws.map Wy.d)), .un, .un]).bind (iterD .seq) = some (ws.map Wy.d) := rfl
    rw [p2]
    dsimp only
    show unlockO _ _ (forLoop _ _ _ [.im (partsD S n st en ws), .ow (.lst []), .un, .un, .un, .im (sgT S), .im (.int n), .im (.lst (dn st)), .im (.lst (dn en)), .im (.lst (ws.map Wy.d)), .un, .un]) = _
    rw [lp1]
    rfl
  obtain ⟨due, hdue⟩ : ∃ due : Nat, due = n * (S.1.length + S.2.2.length + n * S.2.1.length) := ⟨_, rfl⟩
  have hdi : (n : Int) * ((S.1.length : Int) + (S.2.2.length : Int) + (n : Int) * (S.2.1.length : Int)) = (due : Int) := by rw [hdue]; simp
  have hS1 := hS.la
  have hS2 := hS.lb
  have hS3 := hS.lc
  have s4 : evS 0 (.asg (.nm 3) (.bin .mul (.var 6) (.bin .add (.bin .add (.b1 .len (.idx (.var 5) (.cst (.int 0)))) (.b1 .len (.idx (.var 5) (.cst (.int 2))))) (.bin .mul (.var 6) (.b1 .len (.idx (.var 5) (.cst (.int 1)))))))) [.im (partsD S n st en ws), .ow (.lst (l.map pairD)), e2, .un, .un, .im (sgT S), .im (.int n), .im (.lst (dn st)), .im (.lst (dn en)), .im (.lst (ws.map Wy.d)), .un, .un] =
      .ok (.nx, [.im (partsD S n st en ws), .ow (.lst (l.map pairD)), e2, .im (.int due), .un, .im (sgT S), .im (.int n), .im (.lst (dn st)), .im (.lst (dn en)), .im (.lst (ws.map Wy.d)), .un, .un]) := by
    have hz : n < 2 ^ 64 := by omega
    have hz2 : S.2.1.length < 2 ^ 64 := by omega
    have hz3 : (n : Int).natAbs < 2 ^ 64 := by omega
    simp [sgT, idxD, b1D, lenD, binD, addD, mulD, hdi, hz3, hz]
  have c4 := compLoop_map (elt := ev (.idx (.var 10) (.cst (.int 0)))) (ifs := evIfs []) (tg := .nm 10) (own := [10]) (ρ := [.im (partsD S n st en ws), .br (.lst (l.map pairD)), e2, .im (.int due), .un, .im (sgT S), .im (.int n), .im (.lst (dn st)), .im (.lst (dn en)), .im (.lst (ws.map Wy.d)), .un, .un])
    (f := fun d => match d with | .tup [a, _] => a | _ => .non) (items := l.map pairD) (fun d hd => by
      obtain ⟨v, _, rfl⟩ := List.mem_map.mp hd
      simp [compStep, pairD, idxD, wiped])
  have c5 : (l.map pairD).map (fun d => match d with | .tup [a, _] => a | _ => .non) = l.map keyW := by
    rw [List.map_map]
    exact List.map_congr_left fun v _ => rfl
  rw [c5] at c4
  have zl : l.length ≤ szl := by unfold szl; omega
  have s5 : evS 0 (.asg (.nm 4) (.comp (.idx (.var 10) (.cst (.int 0))) (.nm 10) .seq [(.var 1)] [] [10])) [.im (partsD S n st en ws), .ow (.lst (l.map pairD)), e2, .im (.int due), .un, .im (sgT S), .im (.int n), .im (.lst (dn st)), .im (.lst (dn en)), .im (.lst (ws.map Wy.d)), .un, .un] =
      .ok (.nx, [.im (partsD S n st en ws), .ow (.lst (l.map pairD)), e2, .im (.int due), .im (.lst (l.map keyW)), .im (sgT S), .im (.int n), .im (.lst (dn st)), .im (.lst (dn en)), .im (.lst (ws.map Wy.d)), .un, .un]) := by
    simp [ev_comp, iterD, itemsD, lockE, unlockE, zl, c4]
  have f6 := compLoop_flat (elt := ev (.var 11)) (ifs := evIfs [(.cmp .gt (.cnt (.var 4) (.var 11)) (.cst (.int 1)))]) (tg := .nm 11) (own := [11]) (ρ := [.im (partsD S n st en ws), .ow (.lst (l.map pairD)), e2, .im (.int due), .im (.lst (l.map keyW)), .im (sgT S), .im (.int n), .im (.lst (dn st)), .im (.lst (dn en)), .im (.lst (ws.map Wy.d)), .un, .un])
    (f := fun k => if decide (1 < (l.map keyW).countP fun u => eqD u k) then [k] else []) (items := l.map keyW) (fun d hd => by
      obtain ⟨v, _, rfl⟩ := List.mem_map.mp hd
      have d1 := depK v
      have d2 := depKs l
      have d3 : (keyW v).dep ≤ 60 ∧ D.depL (l.map keyW) ≤ 60 := by omega
      generalize hcnt : (l.map keyW).countP (fun u => eqD u (keyW v)) = cnt
      by_cases h1 : 1 < cnt
      · have h1' : (1 : Int) < (cnt : Int) := by omega
        simp [compStep, d3, hcnt, cmpD, h1, h1', wiped]
      · have h1' : ¬ (1 : Int) < (cnt : Int) := by omega
        simp [compStep, d3, hcnt, cmpD, h1, h1', wiped])
  have c7 : ∀ (p : D → Bool) (m : List D), m.flatMap (fun k => if p k then [k] else []) = m.filter p := by
    intro p m
    induction m with
    | nil => rfl
    | cons x m ih => rw [List.flatMap_cons, ih, List.filter_cons]; cases p x <;> rfl
  rw [c7 (fun k => decide (1 < (l.map keyW).countP fun u => eqD u k))] at f6
  have sl : b1D .len (.lst (dn st)) = some (.int st.length) := by simp [b1D, lenD, dn]
  unfold runF m__law_is_plain
  rw [hr, evSs_step s1, evSs_step s2, evSs_step s3, evSs_step s4, evSs_step s5]
  unfold lPl
  rw [← hdue]
  generalize hF : (l.map keyW).filter (fun k => decide (1 < (l.map keyW).countP fun u => eqD u k)) = FF at f6
  have dF : D.depL FF + 1 ≤ 64 := by
    have : ∀ (m : List D), (∀ x ∈ m, x.dep ≤ 1) → D.depL m ≤ 1 := by
      intro m
      induction m with
      | nil => intro _; simp [D.depL]
      | cons x m ih =>
        intro h
        have h1 := ih fun y hy => h y (List.mem_cons_of_mem _ hy)
        have h2 := h x List.mem_cons_self
        unfold D.depL
        omega
    have := this FF fun x hx => by
      rw [← hF] at hx
      obtain ⟨v, _, rfl⟩ := List.mem_map.mp (List.mem_filter.mp hx).1
      rw [depK]
      omega
    omega
  have eF : eqL FF [] = FF.isEmpty := by cases FF <;> rfl
  have hz9 : (l.map keyW).length ≤ szl := by rw [List.length_map]; exact zl
  have a1 : ev (.cmp .eq (.b1 .len (.var 7)) (.cst (.int 1))) [.im (partsD S n st en ws), .ow (.lst (l.map pairD)), e2, .im (.int due), .im (.lst (l.map keyW)), .im (sgT S), .im (.int n), .im (.lst (dn st)), .im (.lst (dn en)), .im (.lst (ws.map Wy.d)), .un, .un] = .ok (.bl (decide (st.length = 1)), [.im (partsD S n st en ws), .ow (.lst (l.map pairD)), e2, .im (.int due), .im (.lst (l.map keyW)), .im (sgT S), .im (.int n), .im (.lst (dn st)), .im (.lst (dn en)), .im (.lst (ws.map Wy.d)), .un, .un]) := by
    have : ((st.length : Int) == 1) = decide (st.length = 1) := by rw [Bool.eq_iff_iff]; simp; omega
    simp [sl, cmpD, eqOk, eqD, D.dep, this]
  have a2 : ev (.cmp .eq (.b1 .len (.var 4)) (.var 3)) [.im (partsD S n st en ws), .ow (.lst (l.map pairD)), e2, .im (.int due), .im (.lst (l.map keyW)), .im (sgT S), .im (.int n), .im (.lst (dn st)), .im (.lst (dn en)), .im (.lst (ws.map Wy.d)), .un, .un] = .ok (.bl (decide (l.length = due)), [.im (partsD S n st en ws), .ow (.lst (l.map pairD)), e2, .im (.int due), .im (.lst (l.map keyW)), .im (sgT S), .im (.int n), .im (.lst (dn st)), .im (.lst (dn en)), .im (.lst (ws.map Wy.d)), .un, .un]) := by
    have : ((l.length : Int) == (due : Int)) = decide (l.length = due) := by rw [Bool.eq_iff_iff]; simp; omega
    simp [b1D, lenD, cmpD, eqOk, eqD, D.dep, this]
  have a3 : ev (.comp (.var 11) (.nm 11) .seq [(.var 4)] [(.cmp .gt (.cnt (.var 4) (.var 11)) (.cst (.int 1)))] [11]) [.im (partsD S n st en ws), .ow (.lst (l.map pairD)), e2, .im (.int due), .im (.lst (l.map keyW)), .im (sgT S), .im (.int n), .im (.lst (dn st)), .im (.lst (dn en)), .im (.lst (ws.map Wy.d)), .un, .un] = .ok (.lst FF, [.im (partsD S n st en ws), .ow (.lst (l.map pairD)), e2, .im (.int due), .im (.lst (l.map keyW)), .im (sgT S), .im (.int n), .im (.lst (dn st)), .im (.lst (dn en)), .im (.lst (ws.map Wy.d)), .un, .un]) := by
    exact comp_ok rfl rfl hz9 rfl f6 rfl
  have a4 : ev (.cmp .eq (.comp (.var 11) (.nm 11) .seq [(.var 4)] [(.cmp .gt (.cnt (.var 4) (.var 11)) (.cst (.int 1)))] [11]) (.lst [])) [.im (partsD S n st en ws), .ow (.lst (l.map pairD)), e2, .im (.int due), .im (.lst (l.map keyW)), .im (sgT S), .im (.int n), .im (.lst (dn st)), .im (.lst (dn en)), .im (.lst (ws.map Wy.d)), .un, .un] = .ok (.bl FF.isEmpty, [.im (partsD S n st en ws), .ow (.lst (l.map pairD)), e2, .im (.int due), .im (.lst (l.map keyW)), .im (sgT S), .im (.int n), .im (.lst (dn st)), .im (.lst (dn en)), .im (.lst (ws.map Wy.d)), .un, .un]) := by
    rw [ev_cmp, pre_comp, a3]
    simp [cmpD, eqOk, eqD, D.dep, D.depL, dF, eF]
  simp only [evSs_cons, evS_ret, ev_and, evAnd_two1, evAnd_one1, a1, a2, a4, Out.bind_ok]
  cases decide (st.length = 1) <;> cases decide (l.length = due) <;> simp
end K4

namespace K4
open NV PySem.W PG
section
variable (ns : List Int) (at_ : Nat) (S : Sg) (n : Nat) (cs : List Int)
def fSt (ws : List Wy) (e6 e7 e8 : Ent) : Rho := [.im (.scr ns), .im (.int at_), .im (sgT S), .im (.int n), .ow (.lst (ws.map Wy.d)), .im (.lst (cs.map D.int)), e6, e7, e8, .un]
variable {ns at_ S n cs}
theorem app_loop (E : ME) (e6 e8 : Ent) : ∀ {items : List D} (ws : List Wy) (e7 : Ent), (∀ d ∈ items, ∀ ws : List Wy, ws.length < 200 → ∃ w, WyOk S n w ∧ ev E (fSt ns at_ S n cs ws e6 (.im d) e8) = .ok (w.d, fSt ns at_ S n cs ws e6 (.im d) e8)) → isUI e7 = true → (∀ w ∈ ws, WyOk S n w) → ws.length + items.length ≤ 190 →
    ∃ ws' e7', isUI e7' = true ∧ (∀ w ∈ ws', WyOk S n w) ∧ ws'.length = ws.length + items.length ∧ forLoop (evSs 0 [.app 4 E]) (.nm 7) items (fSt ns at_ S n cs ws e6 e7 e8) = .ok (.nx, fSt ns at_ S n cs ws' e6 e7' e8)
  | [], ws, e7, _, h7, hw, hl => ⟨ws, e7, h7, hw, by simp, rfl⟩
  | d :: ds, ws, e7, h, h7, hw, hl => by
    rw [List.length_cons] at hl
    obtain ⟨w, hok, he⟩ := h d List.mem_cons_self ws (by omega)
    obtain ⟨ws', e7', w1, w2, w3, w4⟩ := app_loop E e6 e8 (ws ++ [w]) (.im d) (fun d' hd' => h d' (List.mem_cons_of_mem _ hd')) rfl (fun v hv => by
      rcases List.mem_append.mp hv with hv | hv
      · exact hw v hv
      · rw [List.mem_singleton.mp hv]; exact hok) (by simp; omega)
    refine ⟨ws', e7', w1, w2, by rw [w3]; simp; omega, ?_⟩
    rw [forLoop_cons]
    have s1 : setT (.nm 7) d (fSt ns at_ S n cs ws e6 e7 e8) = some (fSt ns at_ S n cs ws e6 (.im d) e8) := by rcases isUI_or h7 with rfl | ⟨x, rfl⟩ <;> rfl
    rw [s1]
    dsimp only
    have zl : ws.length < 16777215 := by omega
    have s2 : evS 0 (.app 4 E) (fSt ns at_ S n cs ws e6 (.im d) e8) = .ok (.nx, fSt ns at_ S n cs (ws ++ [w]) e6 (.im d) e8) := by
      have o1 : owAt (fSt ns at_ S n cs ws e6 (.im d) e8) 4 = some (.lst (ws.map Wy.d), .ow) := rfl
      have a1 : appW (.lst (ws.map Wy.d)) w.d = some (.lst ((ws ++ [w]).map Wy.d)) := by
        show (if (ws.map Wy.d).length < 16777215 then _ else none) = _
        rw [List.length_map, if_pos zl, List.map_append]
        rfl
      rw [evS_app, o1]
      dsimp only
      rw [he]
      simp only [Out.bind_ok]
      rw [o1]
      dsimp only
      rw [a1]
      rfl
    rw [evSs_step s2]
    exact w4
theorem law_full_ex (ns : List Int) (at_ : Nat) {S : Sg} {n : Nat} (hS : SgOk S) (h1 : 1 ≤ n) (h4 : n ≤ 4) : ∃ ws : List Wy, (∀ w ∈ ws, WyOk S n w) ∧ ws.length ≤ 96 ∧ E__law_full.F [.scr ns, .int at_, sgT S, .int n] = .ok (.lst (ws.map Wy.d), []) := by
  have hn0 : (0 : Int) < (n : Int) := by omega
  have hn1 : 0 < n := by omega
  obtain ⟨cs, hcs⟩ : ∃ cs : List Int, cs = (List.range 200).map fun k : Nat => mixed (ns.getD (at_ + k % 40) 0) k := ⟨_, rfl⟩
  have hcl : cs.length = 200 := by rw [hcs, List.length_map, List.length_range]
  have c1 := compLoop_map (elt := ev (.call PG.E__law_mixed [(.call PG.E__law_cell_at [(.var 0), (.bin .add (.var 1) (.bin .mod (.var 9) (.cst (.int 40))))]), (.var 9)])) (ifs := evIfs []) (tg := .nm 9) (own := [9]) (ρ := [.im (.scr ns), .im (.int at_), .im (sgT S), .im (.int n), .ow (.lst []), .un, .un, .un, .un, .un])
    (f := fun d => match d with | .int k => .int (mixed (ns.getD (at_ + k.toNat % 40) 0) k) | _ => .non) (items := rngD 0 200) (fun d hd => by
      obtain ⟨k, hk⟩ := List.mem_iff_getElem?.mp hd
      obtain ⟨hk1, rfl⟩ := rng_get hk
      have c := cell_at_eq ns (at_ + k % 40)
      rw [show (((at_ + k % 40 : Nat)) : Int) = (at_ : Int) + (k : Int) % 40 by omega] at c
      have mx := mixed_eq (ns.getD (at_ + k % 40) 0) k
      have tk : ((k : Int)).toNat = k := by omega
      dsimp only
      rw [tk]
      generalize ns.getD (at_ + k % 40) 0 = g at c mx ⊢
      simp [compStep, binD, addD, modD, c, mx, wiped])
  have c2 : (rngD 0 200).map (fun d => match d with | .int k => .int (mixed (ns.getD (at_ + k.toNat % 40) 0) k) | _ => .non) = cs.map D.int := by
    rw [hcs]
    unfold rngD
    rw [List.map_map, List.map_map]
    refine List.map_congr_left fun k _ => ?_
    show D.int (mixed (ns.getD (at_ + ((0 : Int) + (k : Int)).toNat % 40) 0) ((0 : Int) + k)) = D.int (mixed (ns.getD (at_ + k % 40) 0) k)
    rw [show ((0 : Int) + (k : Int)).toNat = k by omega, show (0 : Int) + (k : Int) = k by omega]
  rw [c2] at c1
  have hz : (rngD 0 200).length ≤ szl := by rw [rng_len]; exact Nat.le_of_ble_eq_true rfl
  have s1 : evS 0 (.asgF 4 (.lst [])) [.im (.scr ns), .im (.int at_), .im (sgT S), .im (.int n), .un, .un, .un, .un, .un, .un] = .ok (.nx, [.im (.scr ns), .im (.int at_), .im (sgT S), .im (.int n), .ow (.lst []), .un, .un, .un, .un, .un]) := rfl
  have s2 : evS 0 (.asg (.nm 5) (.comp (.call PG.E__law_mixed [(.call PG.E__law_cell_at [(.var 0), (.bin .add (.var 1) (.bin .mod (.var 9) (.cst (.int 40))))]), (.var 9)]) (.nm 9) .rng1 [(.cst (.int 200))] [] [9])) [.im (.scr ns), .im (.int at_), .im (sgT S), .im (.int n), .ow (.lst []), .un, .un, .un, .un, .un] = .ok (.nx, fSt ns at_ S n cs [] .un .un .un) := by
    have s20 : ev (.comp (.call PG.E__law_mixed [(.call PG.E__law_cell_at [(.var 0), (.bin .add (.var 1) (.bin .mod (.var 9) (.cst (.int 40))))]), (.var 9)]) (.nm 9) .rng1 [(.cst (.int 200))] [] [9]) [.im (.scr ns), .im (.int at_), .im (sgT S), .im (.int n), .ow (.lst []), .un, .un, .un, .un, .un] = .ok (.lst (cs.map D.int), [.im (.scr ns), .im (.int at_), .im (sgT S), .im (.int n), .ow (.lst []), .un, .un, .un, .un, .un]) := comp_ok rfl (iter_rng (n := 200) (by omega)) hz rfl c1 rfl
    rw [evS_asg, s20]
    rfl
  -- a cell's room
  have cell : ∀ (ws : List Wy), ws.length < 200 → ∃ x : Int, ixD (cs.map D.int) (ws.length : Int) = some (.int x) := fun ws hl => ⟨_, ix_int cs ws.length (by omega) (by omega)⟩
  have iOn : ∀ (r : Nat), r < n → ∀ (e8 : Ent), ∀ d ∈ S.2.2.map (fun c => D.str [c]), ∀ ws : List Wy, ws.length < 200 → ∃ w, WyOk S n w ∧ ev (.tup [(.cst (.str [111, 110])), (.var 6), (.var 7), (.bin .mod (.idx (.var 5) (.b1 .len (.var 4))) (.var 3))]) (fSt ns at_ S n cs ws (.im (.int r)) (.im d) e8) = .ok (w.d, fSt ns at_ S n cs ws (.im (.int r)) (.im d) e8) := fun r hr e8 d hd ws hl => by
    obtain ⟨c, hc, rfl⟩ := List.mem_map.mp hd
    obtain ⟨x, hx⟩ := cell ws hl
    obtain ⟨q, hq, eq⟩ := modN x h1
    refine ⟨.on r c q, ⟨hr, hc, hq⟩, ?_⟩
    unfold fSt
    simp [b1D, lenD, idxD, hx, binD, modD, hn0, hn1, eq, Wy.d]
  have iOp : ∀ (r : Nat), r < n → ∀ (e8 : Ent), ∀ d ∈ S.1.map (fun c => D.str [c]), ∀ ws : List Wy, ws.length < 200 → ∃ w, WyOk S n w ∧ ev (.tup [(.cst (.str [111, 112, 101, 110])), (.var 6), (.var 7), (.bin .mod (.idx (.var 5) (.b1 .len (.var 4))) (.var 3)), (.bin .mod (.bin .div (.idx (.var 5) (.b1 .len (.var 4))) (.cst (.int 4))) (.var 3))]) (fSt ns at_ S n cs ws (.im (.int r)) (.im d) e8) = .ok (w.d, fSt ns at_ S n cs ws (.im (.int r)) (.im d) e8) := fun r hr e8 d hd ws hl => by
    obtain ⟨c, hc, rfl⟩ := List.mem_map.mp hd
    obtain ⟨x, hx⟩ := cell ws hl
    obtain ⟨q, hq, eq⟩ := modN x h1
    obtain ⟨k, hk, ek⟩ := modN (x / 4) h1
    refine ⟨.op r c q k, ⟨hr, hc, hq, hk⟩, ?_⟩
    unfold fSt
    simp [b1D, lenD, idxD, hx, binD, modD, divD, hn0, hn1, eq, ek, Wy.d]
  have iCl : ∀ (r k : Nat), r < n → k < n → ∀ d ∈ S.2.1.map (fun c => D.str [c]), ∀ ws : List Wy, ws.length < 200 → ∃ w, WyOk S n w ∧ ev (.tup [(.cst (.str [99, 108, 111, 115, 101])), (.var 6), (.var 8), (.var 7), (.bin .mod (.idx (.var 5) (.b1 .len (.var 4))) (.var 3))]) (fSt ns at_ S n cs ws (.im (.int r)) (.im d) (.im (.int k))) = .ok (w.d, fSt ns at_ S n cs ws (.im (.int r)) (.im d) (.im (.int k))) := fun r k hr hk d hd ws hl => by
    obtain ⟨c, hc, rfl⟩ := List.mem_map.mp hd
    obtain ⟨x, hx⟩ := cell ws hl
    obtain ⟨q, hq, eq⟩ := modN x h1
    refine ⟨.cl r k c q, ⟨hr, hk, hc, hq⟩, ?_⟩
    unfold fSt
    simp [b1D, lenD, idxD, hx, binD, modD, hn0, hn1, eq, Wy.d]
  have hA := hS.la
  have hB := hS.lb
  have hC := hS.lc
  -- the kept rooms
  have kp : ∀ (r : Nat), r < n → ∀ (ws : List Wy) (e7 e8 : Ent), isUI e7 = true → isUI e8 = true → (∀ w ∈ ws, WyOk S n w) → ws.length ≤ 100 → ∃ ws' e7' e8', isUI e7' = true ∧ isUI e8' = true ∧ (∀ w ∈ ws', WyOk S n w) ∧ ws'.length ≤ ws.length + 16 ∧
      forLoop (evSs 0 [.for (.nm 7) .seq [(.idx (.var 2) (.cst (.int 1)))] [.app 4 (.tup [(.cst (.str [99, 108, 111, 115, 101])), (.var 6), (.var 8), (.var 7), (.bin .mod (.idx (.var 5) (.b1 .len (.var 4))) (.var 3))])]]) (.nm 8) (rngD 0 n) (fSt ns at_ S n cs ws (.im (.int r)) e7 e8) = .ok (.nx, fSt ns at_ S n cs ws' (.im (.int r)) e7' e8') := fun r hr ws e7 e8 u7 u8 hw hl => by
    have lp := for_inv (body := evSs 0 [.for (.nm 7) .seq [(.idx (.var 2) (.cst (.int 1)))] [.app 4 (.tup [(.cst (.str [99, 108, 111, 115, 101])), (.var 6), (.var 8), (.var 7), (.bin .mod (.idx (.var 5) (.b1 .len (.var 4))) (.var 3))])]]) (tg := .nm 8)
      (fun i ρ => ∃ (ws' : List Wy) (e7 e8 : Ent), isUI e7 = true ∧ isUI e8 = true ∧ (∀ w ∈ ws', WyOk S n w) ∧ ws'.length ≤ ws.length + 4 * i ∧ ρ = fSt ns at_ S n cs ws' (.im (.int r)) e7 e8) (rngD 0 n) 0 _ ⟨ws, e7, e8, u7, u8, hw, by omega, rfl⟩
      (fun j ρ d hd ⟨ws', e7, e8, u7, u8, hw', hl', e⟩ => by
        subst e
        obtain ⟨hj, rfl⟩ := rng_get hd
        have s1 : setT (.nm 8) (.int (j : Int)) (fSt ns at_ S n cs ws' (.im (.int r)) e7 e8) = some (fSt ns at_ S n cs ws' (.im (.int r)) e7 (.im (.int j))) := by rcases isUI_or u8 with rfl | ⟨x, rfl⟩ <;> rfl
        obtain ⟨ws2, e72, w1, w2, w3, w4⟩ := app_loop (ns := ns) (at_ := at_) (cs := cs) _ (.im (.int r)) (.im (.int j)) ws' e7 (iCl r j hr hj) u7 hw' (by rw [List.length_map]; omega)
        refine ⟨_, _, s1, ?_, ws2, e72, .im (.int j), w1, rfl, w2, ?_, rfl⟩
        · have f1 := for_ok (ρ4 := fSt ns at_ S n cs ws2 (.im (.int r)) e72 (.im (.int j))) (ρ := fSt ns at_ S n cs ws' (.im (.int r)) e7 (.im (.int j))) (args := [(.idx (.var 2) (.cst (.int 1)))]) (k := .seq) rfl rfl rfl w4 rfl
          rw [evSs_step f1]
          rfl
        · rw [w3, List.length_map]; omega)
    obtain ⟨ρ', lp1, ws', e7', e8', u7', u8', hw', hl', rfl⟩ := lp
    rw [rng_len] at hl'
    exact ⟨ws', e7', e8', u7', u8', hw', by omega, lp1⟩
  -- the rooms
  have lp := for_inv (body := evSs 0 [.for (.nm 7) .seq [(.idx (.var 2) (.cst (.int 2)))] [.app 4 (.tup [(.cst (.str [111, 110])), (.var 6), (.var 7), (.bin .mod (.idx (.var 5) (.b1 .len (.var 4))) (.var 3))])], .for (.nm 7) .seq [(.idx (.var 2) (.cst (.int 0)))] [.app 4 (.tup [(.cst (.str [111, 112, 101, 110])), (.var 6), (.var 7), (.bin .mod (.idx (.var 5) (.b1 .len (.var 4))) (.var 3)), (.bin .mod (.bin .div (.idx (.var 5) (.b1 .len (.var 4))) (.cst (.int 4))) (.var 3))])], .for (.nm 8) .rng1 [(.var 3)] [.for (.nm 7) .seq [(.idx (.var 2) (.cst (.int 1)))] [.app 4 (.tup [(.cst (.str [99, 108, 111, 115, 101])), (.var 6), (.var 8), (.var 7), (.bin .mod (.idx (.var 5) (.b1 .len (.var 4))) (.var 3))])]]]) (tg := .nm 6)
    (fun i ρ => ∃ (ws : List Wy) (e6 e7 e8 : Ent), isUI e6 = true ∧ isUI e7 = true ∧ isUI e8 = true ∧ (∀ w ∈ ws, WyOk S n w) ∧ ws.length ≤ 24 * i ∧ ρ = fSt ns at_ S n cs ws e6 e7 e8) (rngD 0 n) 0 (fSt ns at_ S n cs [] .un .un .un) ⟨[], .un, .un, .un, rfl, rfl, rfl, (fun w h => by cases h), Nat.le_refl _, rfl⟩
    (fun j ρ d hd ⟨ws, e6, e7, e8, u6, u7, u8, hw, hl, e⟩ => by
      subst e
      obtain ⟨hj, rfl⟩ := rng_get hd
      have s1 : setT (.nm 6) (.int (j : Int)) (fSt ns at_ S n cs ws e6 e7 e8) = some (fSt ns at_ S n cs ws (.im (.int j)) e7 e8) := by rcases isUI_or u6 with rfl | ⟨x, rfl⟩ <;> rfl
      obtain ⟨ws1, f7, w1, w2, w3, w4⟩ := app_loop (ns := ns) (at_ := at_) (cs := cs) _ (.im (.int j)) e8 ws e7 (iOn j hj e8) u7 hw (by rw [List.length_map]; omega)
      have f1 := for_ok (ρ4 := fSt ns at_ S n cs ws1 (.im (.int j)) f7 e8) (ρ := fSt ns at_ S n cs ws (.im (.int j)) e7 e8) (args := [(.idx (.var 2) (.cst (.int 2)))]) (k := .seq) rfl rfl rfl w4 rfl
      rw [List.length_map] at w3
      obtain ⟨ws2, g7, x1, x2, x3, x4⟩ := app_loop (ns := ns) (at_ := at_) (cs := cs) _ (.im (.int j)) e8 ws1 f7 (iOp j hj e8) w1 w2 (by rw [List.length_map]; omega)
      have f2 := for_ok (ρ4 := fSt ns at_ S n cs ws2 (.im (.int j)) g7 e8) (ρ := fSt ns at_ S n cs ws1 (.im (.int j)) f7 e8) (args := [(.idx (.var 2) (.cst (.int 0)))]) (k := .seq) rfl rfl rfl x4 rfl
      rw [List.length_map] at x3
      obtain ⟨ws3, h7, h8, y1, y2, y3, y4, y5⟩ := kp j hj ws2 g7 e8 x1 u8 x2 (by omega)
      have f3 := for_ok (ρ4 := fSt ns at_ S n cs ws3 (.im (.int j)) h7 h8) (ρ := fSt ns at_ S n cs ws2 (.im (.int j)) g7 e8) (args := [(.var 3)]) (k := .rng1) rfl (iter_rng (n := n) (by omega)) rfl y5 rfl
      refine ⟨_, _, s1, ?_, ws3, .im (.int j), h7, h8, rfl, y1, y2, y3, ?_, rfl⟩
      · rw [evSs_step f1, evSs_step f2, evSs_step f3]
        rfl
      · omega)
  obtain ⟨ρ', lp1, ws, e6, e7, e8, u6, u7, u8, hw, hl, rfl⟩ := lp
  rw [rng_len] at hl
  refine ⟨ws, hw, by omega, ?_⟩
  rw [F__law_full]
  have hr : rho0 [.im, .im, .im, .im] [.scr ns, .int at_, sgT S, .int n] 10 = [.im (.scr ns), .im (.int at_), .im (sgT S), .im (.int n), .un, .un, .un, .un, .un, .un] := rfl
  have f9 := for_ok (ρ4 := fSt ns at_ S n cs ws e6 e7 e8) (ρ := fSt ns at_ S n cs [] .un .un .un) (args := [(.var 3)]) (k := .rng1) rfl (iter_rng (n := n) (by omega)) rfl lp1 rfl
  unfold runF m__law_full
  rw [hr, evSs_step s1, evSs_step s2, evSs_step f9]
  rfl
end
end K4

namespace K4
open NV PySem.W PG
def want (S : Sg) (n : Nat) : List D := (List.range n).flatMap (keysR S n)
theorem kOn_inj {r s r' s' : Nat} (h : kOn r s = kOn r' s') : r = r' ∧ s = s' := by
  unfold kOn at h
  simp at h
  omega
theorem kOp_inj {r s r' s' : Nat} (h : kOp r s = kOp r' s') : r = r' ∧ s = s' := by
  unfold kOp at h
  simp at h
  omega
theorem kCl_inj {r k s r' k' s' : Nat} (h : kCl r k s = kCl r' k' s') : r = r' ∧ k = k' ∧ s = s' := by
  unfold kCl at h
  simp at h
  omega
theorem kOn_op (r s r' s' : Nat) : kOn r s ≠ kOp r' s' := by unfold kOn kOp; simp
theorem kOn_cl (r s r' k s' : Nat) : kOn r s ≠ kCl r' k s' := by unfold kOn kCl; simp
theorem kOp_cl (r s r' k s' : Nat) : kOp r s ≠ kCl r' k s' := by unfold kOp kCl; simp
theorem mem_keysR {S : Sg} {n r : Nat} {k : D} : k ∈ keysR S n r ↔ (∃ s ∈ S.2.2, k = kOn r s) ∨ (∃ s ∈ S.1, k = kOp r s) ∨ ∃ s ∈ S.2.1, ∃ k' < n, k = kCl r k' s := by
  unfold keysR
  simp only [List.mem_append, List.mem_map, List.mem_flatMap, List.mem_range]
  constructor
  · rintro ((⟨s, h, rfl⟩ | ⟨s, h, rfl⟩) | ⟨s, h, k', h', rfl⟩)
    · exact .inl ⟨s, h, rfl⟩
    · exact .inr (.inl ⟨s, h, rfl⟩)
    · exact .inr (.inr ⟨s, h, k', h', rfl⟩)
  · rintro (⟨s, h, rfl⟩ | ⟨s, h, rfl⟩ | ⟨s, h, k', h', rfl⟩)
    · exact .inl (.inl ⟨s, h, rfl⟩)
    · exact .inl (.inr ⟨s, h, rfl⟩)
    · exact .inr ⟨s, h, k', h', rfl⟩
theorem nodup_map {α β : Type} {f : α → β} {l : List α} (hf : ∀ x y, f x = f y → x = y) (h : l.Nodup) : (l.map f).Nodup := by
  rw [List.Nodup, List.pairwise_map]
  exact h.imp fun {a b} hab z => hab (hf a b z)
theorem keysR_nodup {S : Sg} (hS : SgOk S) (n r : Nat) : (keysR S n r).Nodup := by
  have nd := hS.nd
  rw [List.nodup_append, List.nodup_append] at nd
  obtain ⟨⟨na, nb, _⟩, nc, _⟩ := nd
  unfold keysR
  rw [List.nodup_append, List.nodup_append]
  refine ⟨⟨nodup_map (fun x y h => (kOn_inj h).2) nc, nodup_map (fun x y h => (kOp_inj h).2) na, fun x hx y hy => ?_⟩, ?_, fun x hx y hy => ?_⟩
  · obtain ⟨s, _, rfl⟩ := List.mem_map.mp hx
    obtain ⟨s', _, rfl⟩ := List.mem_map.mp hy
    exact kOn_op _ _ _ _
  · rw [List.Nodup, List.pairwise_flatMap]
    refine ⟨fun s _ => nodup_map (fun x y h => (kCl_inj h).2.1) List.nodup_range, nb.imp fun {a b} hab x hx y hy => ?_⟩
    obtain ⟨k, _, rfl⟩ := List.mem_map.mp hx
    obtain ⟨k', _, rfl⟩ := List.mem_map.mp hy
    exact fun z => hab (kCl_inj z).2.2
  · obtain ⟨s', hs', hy⟩ := List.mem_flatMap.mp hy
    obtain ⟨k', _, rfl⟩ := List.mem_map.mp hy
    rcases List.mem_append.mp hx with hx | hx
    · obtain ⟨s, _, rfl⟩ := List.mem_map.mp hx
      exact kOn_cl _ _ _ _ _
    · obtain ⟨s, _, rfl⟩ := List.mem_map.mp hx
      exact kOp_cl _ _ _ _ _
theorem want_nodup {S : Sg} (hS : SgOk S) (n : Nat) : (want S n).Nodup := by
  unfold want
  rw [List.Nodup, List.pairwise_flatMap]
  refine ⟨fun r _ => keysR_nodup hS n r, (List.nodup_range (n := n)).imp fun {a b} hab x hx y hy z => hab ?_⟩
  subst z
  rw [mem_keysR] at hx hy
  rcases hx with ⟨s, _, rfl⟩ | ⟨s, _, rfl⟩ | ⟨s, _, k, _, rfl⟩ <;> rcases hy with ⟨s', _, e⟩ | ⟨s', _, e⟩ | ⟨s', _, k', _, e⟩
  · exact (kOn_inj e).1
  · exact absurd e (kOn_op _ _ _ _)
  · exact absurd e (kOn_cl _ _ _ _ _)
  · exact absurd e.symm (kOn_op _ _ _ _)
  · exact (kOp_inj e).1
  · exact absurd e (kOp_cl _ _ _ _ _)
  · exact absurd e.symm (kOn_cl _ _ _ _ _)
  · exact absurd e.symm (kOp_cl _ _ _ _ _)
  · exact (kCl_inj e).1
theorem sum_const {α : Type} (f : α → Nat) (c : Nat) : ∀ l : List α, (∀ x ∈ l, f x = c) → (l.map f).sum = l.length * c
  | [], _ => by simp
  | x :: l, h => by
    rw [List.map_cons, List.sum_cons, sum_const f c l fun y hy => h y (List.mem_cons_of_mem _ hy), h x List.mem_cons_self, List.length_cons, Nat.succ_mul]
    omega
theorem keysR_len (S : Sg) (n r : Nat) : (keysR S n r).length = S.1.length + S.2.2.length + n * S.2.1.length := by
  unfold keysR
  rw [List.length_append, List.length_append, List.length_map, List.length_map, List.length_flatMap, sum_const _ n S.2.1 fun x _ => by rw [List.length_map, List.length_range], Nat.mul_comm]
  omega
theorem want_len (S : Sg) (n : Nat) : (want S n).length = n * (S.1.length + S.2.2.length + n * S.2.1.length) := by
  unfold want
  rw [List.length_flatMap, sum_const _ _ _ fun r _ => keysR_len S n r, List.length_range]
theorem key_want {S : Sg} {n : Nat} {w : Wy} (h : WyOk S n w) : keyW w ∈ want S n := by
  unfold want
  rw [List.mem_flatMap]
  cases w with
  | on r s q => exact ⟨r, List.mem_range.mpr h.1, mem_keysR.mpr (.inl ⟨s, h.2.1, rfl⟩)⟩
  | op r s q k => exact ⟨r, List.mem_range.mpr h.1, mem_keysR.mpr (.inr (.inl ⟨s, h.2.1, rfl⟩))⟩
  | cl r k s q => exact ⟨r, List.mem_range.mpr h.1, mem_keysR.mpr (.inr (.inr ⟨s, h.2.2.1, k, h.2.1, rfl⟩))⟩
theorem count_key (l : List Wy) (k : D) : (l.filter fun w => decide (keyW w = k)).length = (l.map keyW).count k := by
  rw [List.count, List.countP_map, ← List.countP_eq_length_filter]
  refine List.countP_congr fun w _ => ?_
  simp
theorem dup_iff (l : List Wy) : ((l.map keyW).filter fun k => decide (1 < (l.map keyW).countP fun u => eqD u k)).isEmpty = decide ((l.map keyW).Nodup) := by
  have hc : ∀ w : Wy, ((l.map keyW).countP fun u => eqD u (keyW w)) = (l.map keyW).count (keyW w) := fun w => by
    rw [List.count, List.countP_map, List.countP_map]
    refine List.countP_congr fun v _ => ?_
    simp [eqD_key]
  rw [Bool.eq_iff_iff, decide_eq_true_eq, List.isEmpty_iff, List.filter_eq_nil_iff, List.nodup_iff_count]
  constructor
  · intro h k
    by_cases hk : k ∈ l.map keyW
    · have := h k hk
      obtain ⟨w, _, rfl⟩ := List.mem_map.mp hk
      rw [hc] at this
      simp at this
      omega
    · rw [List.count_eq_zero_of_not_mem hk]
      omega
  · intro h k hk
    obtain ⟨w, _, rfl⟩ := List.mem_map.mp hk
    rw [hc]
    have := h (keyW w)
    simp
    omega
theorem plain_iff {S : Sg} (hS : SgOk S) {n : Nat} (st : List Nat) {vs l : List Wy} (p : vs.Perm l) (h : ∀ w ∈ l, WyOk S n w) : isPlain S n st vs = lPl S n st l := by
  unfold isPlain lPl
  congr 1
  rw [dup_iff, ← want_len]
  have ho : ∀ k, PG.oneAt vs k = decide ((l.map keyW).count k = 1) := fun k => by
    unfold PG.oneAt
    rw [count_key, (p.map keyW).count_eq k]
  have sub : ∀ k ∈ l.map keyW, k ∈ want S n := fun k hk => by
    obtain ⟨w, hw, rfl⟩ := List.mem_map.mp hk
    exact key_want (h w hw)
  have wn := want_nodup hS n
  rw [Bool.eq_iff_iff]
  simp only [List.all_eq_true, Bool.and_eq_true, decide_eq_true_eq]
  constructor
  · intro hall
    have h1 : ∀ k ∈ want S n, (l.map keyW).count k = 1 := fun k hk => by
      unfold want at hk
      obtain ⟨r, hr, hk⟩ := List.mem_flatMap.mp hk
      have := hall r hr k hk
      rw [ho] at this
      simpa using this
    have nd : (l.map keyW).Nodup := List.nodup_iff_count.mpr fun k => by
      by_cases hk : k ∈ l.map keyW
      · rw [h1 k (sub k hk)]; omega
      · rw [List.count_eq_zero_of_not_mem hk]; omega
    refine ⟨?_, nd⟩
    have a1 := nd.length_le_of_subset (l₂ := want S n) fun k hk => sub k hk
    have a2 := wn.length_le_of_subset (l₂ := l.map keyW) fun k hk => by
      by_cases hm : k ∈ l.map keyW
      · exact hm
      · have := h1 k hk
        rw [List.count_eq_zero_of_not_mem hm] at this
        cases this
    rw [List.length_map] at a1 a2
    omega
  · rintro ⟨hl, nd⟩ r hr k hk
    rw [ho]
    simp only [decide_eq_true_eq]
    have hkw : k ∈ want S n := by
      unfold want
      exact List.mem_flatMap.mpr ⟨r, hr, hk⟩
    have hm : k ∈ l.map keyW := by
      by_cases hm : k ∈ l.map keyW
      · exact hm
      · exfalso
        have := nd.length_le_of_subset (l₂ := (want S n).erase k) fun x hx => (List.Nodup.mem_erase_iff wn).mpr ⟨fun z => hm (z ▸ hx), sub x hx⟩
        rw [List.length_erase_of_mem hkw, List.length_map, hl] at this
        have := List.length_pos_of_mem hkw
        omega
    have c1 := List.nodup_iff_count.mp nd k
    have c2 := List.count_pos_iff.mpr hm
    omega
end K4

namespace K4
open NV PySem.W PG
section
variable {ns : List Int} {S : Sg} {n : Nat} {c : Int}
def lSt (ns : List Int) (S : Sg) (n : Nat) (c : Int) (p : D) (e5 e6 e7 e8 e9 e10 e11 : Ent) : Rho := [.im (.scr ns), .im (sgT S), .im (.int n), .im (.int c), .im p, e5, e6, e7, e8, e9, e10, e11, .un]
/-- the parts that the drawn ways give -/
theorem b5 {st en : List Nat} {w4 ws : List Wy} (h : MOk S n st en w4) (hw : ∀ w ∈ ws, WyOk S n w) (hl : ws.length ≤ 96) (x : Nat) (e11 : Ent) : ∃ (w5 : List Wy), MOk S n st en w5 ∧
    evS 0 (.ite (.cmp .eq (.bin .mod (.var 3) (.cst (.int 8))) (.cst (.int 1))) [.asg (.nm 4) (.tup [(.var 1), (.var 2), (.idx (.var 4) (.cst (.int 2))), (.var 8), (.bin .add (.sl (.var 7) [] [(.var 9)]) (.sl (.var 7) [(.bin .add (.var 9) (.cst (.int 1)))] []))])] []) (lSt ns S n c (partsD S n st en w4) .un .un (.im (.lst (ws.map Wy.d))) (.im (.lst (dn en))) (.im (.int x)) .un e11) =
      .ok (.nx, lSt ns S n c (partsD S n st en w5) .un .un (.im (.lst (ws.map Wy.d))) (.im (.lst (dn en))) (.im (.int x)) .un e11) := by
  by_cases q : c % 8 = 1
  · have c1 : cutD (ws.map Wy.d) none (some (x : Int)) = (ws.take x).map Wy.d := by rw [cut_to, List.map_take]
    have c2 : cutD (ws.map Wy.d) (some ((x : Int) + 1)) none = (ws.drop (x + 1)).map Wy.d := by
      unfold cutD
      rw [show ((x : Int) + 1) = ((x + 1 : Nat) : Int) by omega, HT.sIx_nat, HT.sIx_none, List.length_map]
      rw [List.take_of_length_le (by rw [List.length_drop, List.length_map]; omega), List.map_drop]
      by_cases hx : x + 1 ≤ ws.length
      · rw [Nat.min_eq_left hx]
      · rw [Nat.min_eq_right (by omega), List.drop_of_length_le (by rw [List.length_map]; omega), List.drop_of_length_le (by rw [List.length_map]; omega)]
    refine ⟨ws.take x ++ ws.drop (x + 1), ⟨h.sg, h.n1, h.n40, h.stn, h.enn, ?_, h.st, h.en, fun w hm => ?_⟩, ?_⟩
    · rw [List.length_append, List.length_take, List.length_drop]; omega
    · rcases List.mem_append.mp hm with hm | hm
      · exact hw w (List.mem_of_mem_take hm)
      · exact hw w (List.mem_of_mem_drop hm)
    · have z : (ws.take x).length + (ws.drop (x + 1)).length ≤ szl := by rw [List.length_take, List.length_drop]; unfold szl; omega
      have z2 : min x ws.length + (ws.length - (x + 1)) ≤ szl := by unfold szl; omega
      unfold lSt partsD
      simp [evSs_cons, evS_for, ev_comp, rho0, entOf, isiD, tyN, tyL, isiB, b1D, lenD, cmpD, eqOk, eqD, eqL, D.dep, D.depL, iterD, itemsD, lockE, unlockE, idxD, slD, binD, addD, subD, mulD, divD, modD, negD, q, c1, c2, z, z2]
  · have q' : (c % 8 == 1) = false := by rw [beq_eq_false_iff_ne]; exact q
    exact ⟨w4, h, by unfold lSt; simp [evSs_cons, evS_for, ev_comp, rho0, entOf, isiD, tyN, tyL, isiB, b1D, lenD, cmpD, eqOk, eqD, eqL, D.dep, D.depL, iterD, itemsD, lockE, unlockE, idxD, slD, binD, addD, subD, mulD, divD, modD, negD, q']⟩
theorem b6 {st en : List Nat} {w4 ws : List Wy} (h : MOk S n st en w4) (hw : ∀ w ∈ ws, WyOk S n w) (hl : ws.length ≤ 96) (x : Nat) (hx : ws ≠ [] → x < ws.length) : ∃ (w5 : List Wy) (e11 : Ent), MOk S n st en w5 ∧
    evS 0 (.ite (.and [(.cmp .eq (.bin .mod (.var 3) (.cst (.int 8))) (.cst (.int 2))), (.cmp .ne (.var 7) (.lst []))]) [.asg (.nm 11) (.idx (.var 7) (.var 9)), .asg (.nm 4) (.tup [(.var 1), (.var 2), (.idx (.var 4) (.cst (.int 2))), (.var 8), (.bin .add (.var 7) (.lst [(.bin .add (.sl (.var 11) [] [(.neg (.cst (.int 1)))]) (.tup [(.bin .mod (.bin .add (.idx (.var 11) (.neg (.cst (.int 1)))) (.cst (.int 1))) (.var 2))]))]))])] []) (lSt ns S n c (partsD S n st en w4) .un .un (.im (.lst (ws.map Wy.d))) (.im (.lst (dn en))) (.im (.int x)) .un .un) =
      .ok (.nx, lSt ns S n c (partsD S n st en w5) .un .un (.im (.lst (ws.map Wy.d))) (.im (.lst (dn en))) (.im (.int x)) .un e11) := by
  have n1 := h.n1
  have hn0 : (0 : Int) < (n : Int) := by omega
  have hn1 : 0 < n := by omega
  have dw := depW ws
  have dw2 : D.depL (ws.map Wy.d) + 1 ≤ 64 := by omega
  by_cases q : c % 8 = 2
  · by_cases he : ws = []
    · subst he
      exact ⟨w4, .un, h, by unfold lSt; simp [evSs_cons, evS_for, ev_comp, rho0, entOf, isiD, tyN, tyL, isiB, b1D, lenD, cmpD, eqOk, eqD, eqL, D.dep, D.depL, iterD, itemsD, lockE, unlockE, idxD, slD, binD, addD, subD, mulD, divD, modD, negD, q]⟩
    · have ne : eqL (ws.map Wy.d) [] = false := by
        cases ws with
        | nil => exact absurd rfl he
        | cons _ _ => rfl
      have hxl := hx he
      have ix : ixD (ws.map Wy.d) (x : Int) = some (ws[x]).d := by
        unfold ixD
        have e0 : (0 : Int) ≤ (x : Int) := by omega
        rw [if_pos e0, show ((x : Int)).toNat = x by omega, List.getElem?_map, List.getElem?_eq_getElem hxl]
        rfl
      have hwx := hw _ (List.getElem_mem hxl)
      have s1 : evS 0 (.asg (.nm 11) (.idx (.var 7) (.var 9))) (lSt ns S n c (partsD S n st en w4) .un .un (.im (.lst (ws.map Wy.d))) (.im (.lst (dn en))) (.im (.int x)) .un .un) = .ok (.nx, lSt ns S n c (partsD S n st en w4) .un .un (.im (.lst (ws.map Wy.d))) (.im (.lst (dn en))) (.im (.int x)) .un (.im (ws[x]).d)) := by
        unfold lSt
        simp [evSs_cons, evS_for, ev_comp, rho0, entOf, isiD, tyN, tyL, isiB, b1D, lenD, cmpD, eqOk, eqD, eqL, D.dep, D.depL, iterD, itemsD, lockE, unlockE, idxD, slD, binD, addD, subD, mulD, divD, modD, negD, ix]
      have cnd : ev (.and [(.cmp .eq (.bin .mod (.var 3) (.cst (.int 8))) (.cst (.int 2))), (.cmp .ne (.var 7) (.lst []))]) (lSt ns S n c (partsD S n st en w4) .un .un (.im (.lst (ws.map Wy.d))) (.im (.lst (dn en))) (.im (.int x)) .un .un) = .ok (.bl true, lSt ns S n c (partsD S n st en w4) .un .un (.im (.lst (ws.map Wy.d))) (.im (.lst (dn en))) (.im (.int x)) .un .un) := by
        unfold lSt
        simp [evSs_cons, evS_for, ev_comp, rho0, entOf, isiD, tyN, tyL, isiB, b1D, lenD, cmpD, eqOk, eqD, eqL, D.dep, D.depL, iterD, itemsD, lockE, unlockE, idxD, slD, binD, addD, subD, mulD, divD, modD, negD, q, ne, dw2]
      generalize hv : ws[x] = v at s1 hwx
      have z3 : ws.length ≤ 16777215 := by omega
      have fin : ∀ (v' : Wy), WyOk S n v' → evS 0 (.asg (.nm 4) (.tup [(.var 1), (.var 2), (.idx (.var 4) (.cst (.int 2))), (.var 8), (.bin .add (.var 7) (.lst [(.bin .add (.sl (.var 11) [] [(.neg (.cst (.int 1)))]) (.tup [(.bin .mod (.bin .add (.idx (.var 11) (.neg (.cst (.int 1)))) (.cst (.int 1))) (.var 2))]))]))])) (lSt ns S n c (partsD S n st en w4) .un .un (.im (.lst (ws.map Wy.d))) (.im (.lst (dn en))) (.im (.int x)) .un (.im v.d)) = .ok (.nx, lSt ns S n c (partsD S n st en (ws ++ [v'])) .un .un (.im (.lst (ws.map Wy.d))) (.im (.lst (dn en))) (.im (.int x)) .un (.im v.d)) →
          ∃ (w5 : List Wy) (e11 : Ent), MOk S n st en w5 ∧ evS 0 (.ite (.and [(.cmp .eq (.bin .mod (.var 3) (.cst (.int 8))) (.cst (.int 2))), (.cmp .ne (.var 7) (.lst []))]) [.asg (.nm 11) (.idx (.var 7) (.var 9)), .asg (.nm 4) (.tup [(.var 1), (.var 2), (.idx (.var 4) (.cst (.int 2))), (.var 8), (.bin .add (.var 7) (.lst [(.bin .add (.sl (.var 11) [] [(.neg (.cst (.int 1)))]) (.tup [(.bin .mod (.bin .add (.idx (.var 11) (.neg (.cst (.int 1)))) (.cst (.int 1))) (.var 2))]))]))])] []) (lSt ns S n c (partsD S n st en w4) .un .un (.im (.lst (ws.map Wy.d))) (.im (.lst (dn en))) (.im (.int x)) .un .un) =
            .ok (.nx, lSt ns S n c (partsD S n st en w5) .un .un (.im (.lst (ws.map Wy.d))) (.im (.lst (dn en))) (.im (.int x)) .un e11) := fun v' hv' s2 => by
        refine ⟨ws ++ [v'], .im v.d, ⟨h.sg, h.n1, h.n40, h.stn, h.enn, by rw [List.length_append]; simp; omega, h.st, h.en, fun w hm => ?_⟩, ?_⟩
        · rcases List.mem_append.mp hm with hm | hm
          · exact hw w hm
          · rw [List.mem_singleton.mp hm]; exact hv'
        · rw [evS_ite, cnd]
          simp only [Out.bind_ok]
          rw [evSs_step s1, evSs_step s2]
          rfl
      cases v with
      | on r s y =>
        obtain ⟨y', hy, ey⟩ := modN ((y : Int) + 1) n1
        have k1 : cutD [D.str sOn, D.int r, D.str [s], D.int y] none (some (-1)) = [D.str sOn, D.int r, D.str [s]] := rfl
        have k2 : ixD [D.str sOn, D.int r, D.str [s], D.int y] (-1) = some (D.int y) := rfl
        refine fin (.on r s y') ⟨hwx.1, hwx.2.1, hy⟩ ?_
        unfold lSt partsD
        simp [Wy.d, idxD, k1, k2, slD, negD, binD, addD, modD, hn0, hn1, ey, szl, z3]
      | op r s y k =>
        obtain ⟨y', hy, ey⟩ := modN ((k : Int) + 1) n1
        have k1 : cutD [D.str sOpen, D.int r, D.str [s], D.int y, D.int k] none (some (-1)) = [D.str sOpen, D.int r, D.str [s], D.int y] := rfl
        have k2 : ixD [D.str sOpen, D.int r, D.str [s], D.int y, D.int k] (-1) = some (D.int k) := rfl
        refine fin (.op r s y y') ⟨hwx.1, hwx.2.1, hwx.2.2.1, hy⟩ ?_
        unfold lSt partsD
        simp [Wy.d, idxD, k1, k2, slD, negD, binD, addD, modD, hn0, hn1, ey, szl, z3]
      | cl r k s y =>
        obtain ⟨y', hy, ey⟩ := modN ((y : Int) + 1) n1
        have k1 : cutD [D.str sClose, D.int r, D.int k, D.str [s], D.int y] none (some (-1)) = [D.str sClose, D.int r, D.int k, D.str [s]] := rfl
        have k2 : ixD [D.str sClose, D.int r, D.int k, D.str [s], D.int y] (-1) = some (D.int y) := rfl
        refine fin (.cl r k s y') ⟨hwx.1, hwx.2.1, hwx.2.2.1, hy⟩ ?_
        unfold lSt partsD
        simp [Wy.d, idxD, k1, k2, slD, negD, binD, addD, modD, hn0, hn1, ey, szl, z3]
  · have q' : (c % 8 == 2) = false := by rw [beq_eq_false_iff_ne]; exact q
    exact ⟨w4, .un, h, by unfold lSt; simp [evSs_cons, evS_for, ev_comp, rho0, entOf, isiD, tyN, tyL, isiB, b1D, lenD, cmpD, eqOk, eqD, eqL, D.dep, D.depL, iterD, itemsD, lockE, unlockE, idxD, slD, binD, addD, subD, mulD, divD, modD, negD, q']⟩
theorem b7 {st en : List Nat} {w4 ws : List Wy} (h : MOk S n st en w4) (hw : ∀ w ∈ ws, WyOk S n w) (hl : ws.length ≤ 96) (e9 e11 : Ent) : ∃ (st' : List Nat) (w5 : List Wy), MOk S n st' en w5 ∧
    evS 0 (.ite (.cmp .eq (.bin .mod (.var 3) (.cst (.int 8))) (.cst (.int 3))) [.asg (.nm 4) (.tup [(.var 1), (.var 2), (.lst []), (.var 8), (.var 7)])] []) (lSt ns S n c (partsD S n st en w4) .un .un (.im (.lst (ws.map Wy.d))) (.im (.lst (dn en))) e9 .un e11) =
      .ok (.nx, lSt ns S n c (partsD S n st' en w5) .un .un (.im (.lst (ws.map Wy.d))) (.im (.lst (dn en))) e9 .un e11) := by
  by_cases q : c % 8 = 3
  · refine ⟨[], ws, ⟨h.sg, h.n1, h.n40, List.nodup_nil, h.enn, by omega, fun x hx => (by cases hx), h.en, hw⟩, ?_⟩
    unfold lSt partsD
    simp [evSs_cons, evS_for, ev_comp, rho0, entOf, isiD, tyN, tyL, isiB, b1D, lenD, cmpD, eqOk, eqD, eqL, D.dep, D.depL, iterD, itemsD, lockE, unlockE, idxD, slD, binD, addD, subD, mulD, divD, modD, negD, q, dn]
  · have q' : (c % 8 == 3) = false := by rw [beq_eq_false_iff_ne]; exact q
    exact ⟨st, w4, h, by unfold lSt; simp [evSs_cons, evS_for, ev_comp, rho0, entOf, isiD, tyN, tyL, isiB, b1D, lenD, cmpD, eqOk, eqD, eqL, D.dep, D.depL, iterD, itemsD, lockE, unlockE, idxD, slD, binD, addD, subD, mulD, divD, modD, negD, q']⟩
theorem b8 {st en : List Nat} {w4 ws : List Wy} (h : MOk S n st en w4) (hw : ∀ w ∈ ws, WyOk S n w) (hl : ws.length ≤ 96) (e9 e11 : Ent) : ∃ (st' : List Nat) (w5 : List Wy), MOk S n st' en w5 ∧
    evS 0 (.ite (.and [(.cmp .eq (.bin .mod (.var 3) (.cst (.int 8))) (.cst (.int 4))), (.cmp .gt (.var 2) (.cst (.int 1)))]) [.asg (.nm 4) (.tup [(.var 1), (.var 2), (.lst [(.cst (.int 0)), (.bin .sub (.var 2) (.cst (.int 1)))]), (.var 8), (.var 7)])] []) (lSt ns S n c (partsD S n st en w4) .un .un (.im (.lst (ws.map Wy.d))) (.im (.lst (dn en))) e9 .un e11) =
      .ok (.nx, lSt ns S n c (partsD S n st' en w5) .un .un (.im (.lst (ws.map Wy.d))) (.im (.lst (dn en))) e9 .un e11) := by
  by_cases q : c % 8 = 4
  · by_cases h1 : 1 < n
    · have e1 : (n : Int) - 1 = ((n - 1 : Nat) : Int) := by omega
      refine ⟨[0, n - 1], ws, ⟨h.sg, h.n1, h.n40, by simp; omega, h.enn, by omega, fun x hx => ?_, h.en, hw⟩, ?_⟩
      · simp at hx; omega
      · have h2 : (1 : Int) < (n : Int) := by omega
        unfold lSt partsD
        simp [evSs_cons, evS_for, ev_comp, rho0, entOf, isiD, tyN, tyL, isiB, b1D, lenD, cmpD, eqOk, eqD, eqL, D.dep, D.depL, iterD, itemsD, lockE, unlockE, idxD, slD, binD, addD, subD, mulD, divD, modD, negD, q, h1, h2, dn, e1]
    · have h2 : ¬ (1 : Int) < (n : Int) := by omega
      exact ⟨st, w4, h, by unfold lSt; simp [evSs_cons, evS_for, ev_comp, rho0, entOf, isiD, tyN, tyL, isiB, b1D, lenD, cmpD, eqOk, eqD, eqL, D.dep, D.depL, iterD, itemsD, lockE, unlockE, idxD, slD, binD, addD, subD, mulD, divD, modD, negD, q, h1, h2]⟩
  · have q' : (c % 8 == 4) = false := by rw [beq_eq_false_iff_ne]; exact q
    exact ⟨st, w4, h, by unfold lSt; simp [evSs_cons, evS_for, ev_comp, rho0, entOf, isiD, tyN, tyL, isiB, b1D, lenD, cmpD, eqOk, eqD, eqL, D.dep, D.depL, iterD, itemsD, lockE, unlockE, idxD, slD, binD, addD, subD, mulD, divD, modD, negD, q']⟩
end
theorem law_eq : ∀ ns : List Int, ns.length ≤ 63 → E_law.F [.scr ns] = .ok (.bl true, []) := by
  intro ns _
  rw [F_law]
  have hr : rho0 [.im] [.scr ns] 13 = [.im (.scr ns), .un, .un, .un, .un, .un, .un, .un, .un, .un, .un, .un, .un] := rfl
  have c0 : PG.E__law_cell_at.F [.scr ns, .int 0] = .ok (.int (ns.getD 0 0), []) := cell_at_eq ns 0
  have c1 : PG.E__law_cell_at.F [.scr ns, .int 1] = .ok (.int (ns.getD 1 0), []) := cell_at_eq ns 1
  have c2 : PG.E__law_cell_at.F [.scr ns, .int 2] = .ok (.int (ns.getD 2 0), []) := cell_at_eq ns 2
  obtain ⟨S, hSd⟩ : ∃ S, S = anyS (ns.getD 0 0) := ⟨_, rfl⟩
  have hS : SgOk S := by rw [hSd]; exact anyS_ok _
  have as := any_signs_eq (ns.getD 0 0)
  rw [← hSd] at as
  obtain ⟨r, hr4, er⟩ := modN (ns.getD 1 0) (n := 4) (by omega)
  obtain ⟨n, hn⟩ : ∃ n : Nat, n = 1 + r := ⟨_, rfl⟩
  have en1 : (1 : Int) + (r : Int) = (n : Int) := by omega
  obtain ⟨c, hc⟩ : ∃ c, c = mixed (ns.getD 2 0) 1 := ⟨_, rfl⟩
  have mx := mixed_eq (ns.getD 2 0) 1
  rw [← hc] at mx
  obtain ⟨n0, st0, en0, ws0, g1, g2, g3, g4, g5, g6, g7, g8, pb⟩ := parts_by_ex ns 3 (S := S) (most := 4) (by omega) (by omega)
  have m0 : MOk S n0 st0 en0 ws0 := ⟨hS, g1, by omega, g5, g6, by omega, g3, g4, g7⟩
  have s1 : evS 0 (.asg (.nm 1) (.call PG.E__law_any_signs_by [(.call PG.E__law_cell_at [(.var 0), (.cst (.int 0))])])) [.im (.scr ns), .un, .un, .un, .un, .un, .un, .un, .un, .un, .un, .un, .un] = .ok (.nx, [.im (.scr ns), .im (sgT S), .un, .un, .un, .un, .un, .un, .un, .un, .un, .un, .un]) := by
    generalize ns.getD 0 0 = g at c0 as
    simp [c0, as]
  have s2 : evS 0 (.asg (.nm 2) (.bin .add (.cst (.int 1)) (.bin .mod (.call PG.E__law_cell_at [(.var 0), (.cst (.int 1))]) (.cst (.int 4))))) [.im (.scr ns), .im (sgT S), .un, .un, .un, .un, .un, .un, .un, .un, .un, .un, .un] = .ok (.nx, [.im (.scr ns), .im (sgT S), .im (.int n), .un, .un, .un, .un, .un, .un, .un, .un, .un, .un]) := by
    have er' : ns.getD 1 0 % 4 = (r : Int) := er
    generalize ns.getD 1 0 = g at c1 er'
    simp [c1, binD, addD, modD, er', en1]
  have s3 : evS 0 (.asg (.nm 3) (.call PG.E__law_mixed [(.call PG.E__law_cell_at [(.var 0), (.cst (.int 2))]), (.cst (.int 1))])) [.im (.scr ns), .im (sgT S), .im (.int n), .un, .un, .un, .un, .un, .un, .un, .un, .un, .un] = .ok (.nx, [.im (.scr ns), .im (sgT S), .im (.int n), .im (.int c), .un, .un, .un, .un, .un, .un, .un, .un, .un]) := by
    generalize ns.getD 2 0 = g at c2 mx
    simp [c2, mx]
  have pb' : PG.E__law_parts_by.F [.scr ns, .int 3, sgT S, .int 4] = .ok (partsD S n0 st0 en0 ws0, []) := pb
  have s4 : evS 0 (.asg (.nm 4) (.call PG.E__law_parts_by [(.var 0), (.cst (.int 3)), (.var 1), (.cst (.int 4))])) [.im (.scr ns), .im (sgT S), .im (.int n), .im (.int c), .un, .un, .un, .un, .un, .un, .un, .un, .un] = .ok (.nx, lSt ns S n c (partsD S n0 st0 en0 ws0) .un .un .un .un .un .un .un) := by
    simp [pb', lSt]
  -- the parts
  have s5 : ∃ (n5 : Nat) (st en : List Nat) (ws : List Wy) (e7 e8 e9 e11 : Ent), n5 ≤ 4 ∧ MOk S n5 st en ws ∧ evS 0 (m_law.getD 4 .retN) (lSt ns S n c (partsD S n0 st0 en0 ws0) .un .un .un .un .un .un .un) = .ok (.nx, lSt ns S n c (partsD S n5 st en ws) .un .un e7 e8 e9 .un e11) := by
    by_cases h7 : c % 8 < 7
    · obtain ⟨ws, hw, hl, lf⟩ := law_full_ex ns 4 (S := S) (n := n) hS (by omega) (by omega)
      have lf' : E__law_full.F [.scr ns, .int 4, sgT S, .int n] = .ok (.lst (ws.map Wy.d), []) := lf
      obtain ⟨en, hen⟩ : ∃ en : List Nat, en = (List.range n).filter fun k : Nat => decide (c / ((k : Int) + 9) % 2 = 0) := ⟨_, rfl⟩
      have t1 : evS 0 (.asg (.nm 7) (.call E__law_full [(.var 0), (.cst (.int 4)), (.var 1), (.var 2)])) (lSt ns S n c (partsD S n0 st0 en0 ws0) .un .un .un .un .un .un .un) = .ok (.nx, lSt ns S n c (partsD S n0 st0 en0 ws0) .un .un (.im (.lst (ws.map Wy.d))) .un .un .un .un) := by
        unfold lSt
        simp [lf']
      have f2 := compLoop_flat (elt := ev (.var 12)) (ifs := evIfs [(.cmp .eq (.bin .mod (.bin .div (.var 3) (.bin .add (.var 12) (.cst (.int 9)))) (.cst (.int 2))) (.cst (.int 0)))]) (tg := .nm 12) (own := [12]) (ρ := lSt ns S n c (partsD S n0 st0 en0 ws0) .un .un (.im (.lst (ws.map Wy.d))) .un .un .un .un)
        (f := fun d => match d with | .int k => if (fun k : Nat => decide (c / ((k : Int) + 9) % 2 = 0)) k.toNat then [d] else [] | _ => []) (items := rngD 0 n) (fun d hd => by
          obtain ⟨k, hk⟩ := List.mem_iff_getElem?.mp hd
          obtain ⟨hk1, rfl⟩ := rng_get hk
          have d1 : (0 : Int) < (k : Int) + 9 ∧ (k : Int) + 9 < 1073741824 := by omega
          have tk : ((k : Int)).toNat = k := by omega
          dsimp only
          rw [tk]
          unfold lSt
          by_cases q : c / ((k : Int) + 9) % 2 = 0
          · simp [compStep, binD, addD, divD, modD, d1, cmpD, eqOk, eqD, D.dep, q, wiped]
          · have q2 : (c / ((k : Int) + 9) % 2 == 0) = false := by rw [beq_eq_false_iff_ne]; exact q
            have q3 : decide (c / ((k : Int) + 9) % 2 = 0) = false := decide_eq_false q
            simp [compStep, binD, addD, divD, modD, d1, cmpD, eqOk, eqD, D.dep, q2, q3, wiped])
      have g2 : (rngD 0 n).flatMap (fun d => match d with | .int k => if (fun k : Nat => decide (c / ((k : Int) + 9) % 2 = 0)) k.toNat then [d] else [] | _ => []) = dn en := by
        rw [hen, ← flat_filter]
        unfold rngD
        rw [List.flatMap_map]
        congr 1
        funext k
        have tk : ((0 : Int) + (k : Int)).toNat = k := by omega
        have tk2 : (0 : Int) + (k : Int) = k := by omega
        dsimp only
        rw [tk, tk2]
      rw [g2] at f2
      have t2 : evS 0 (.asg (.nm 8) (.comp (.var 12) (.nm 12) .rng1 [(.var 2)] [(.cmp .eq (.bin .mod (.bin .div (.var 3) (.bin .add (.var 12) (.cst (.int 9)))) (.cst (.int 2))) (.cst (.int 0)))] [12])) (lSt ns S n c (partsD S n0 st0 en0 ws0) .un .un (.im (.lst (ws.map Wy.d))) .un .un .un .un) = .ok (.nx, lSt ns S n c (partsD S n0 st0 en0 ws0) .un .un (.im (.lst (ws.map Wy.d))) (.im (.lst (dn en))) .un .un .un) := by
        have a := comp_ok (ρ := lSt ns S n c (partsD S n0 st0 en0 ws0) .un .un (.im (.lst (ws.map Wy.d))) .un .un .un .un) (ρ4 := lSt ns S n c (partsD S n0 st0 en0 ws0) .un .un (.im (.lst (ws.map Wy.d))) .un .un .un .un) (args := [(.var 2)]) (k := .rng1) rfl (iter_rng (n := n) (by omega)) (by rw [rng_len]; unfold szl; omega) rfl f2 rfl
        rw [evS_asg, a]
        rfl
      obtain ⟨x3, hx3, ex3⟩ := modN (c / 8) (n := n) (by omega)
      have hn0 : (0 : Int) < (n : Int) := by omega
      have hn1 : 0 < n := by omega
      have t3 : evS 0 (.asg (.nm 4) (.tup [(.var 1), (.var 2), (.lst [(.bin .mod (.bin .div (.var 3) (.cst (.int 8))) (.var 2))]), (.var 8), (.var 7)])) (lSt ns S n c (partsD S n0 st0 en0 ws0) .un .un (.im (.lst (ws.map Wy.d))) (.im (.lst (dn en))) .un .un .un) = .ok (.nx, lSt ns S n c (partsD S n [x3] en ws) .un .un (.im (.lst (ws.map Wy.d))) (.im (.lst (dn en))) .un .un .un) := by
        unfold lSt partsD
        simp [binD, divD, modD, hn0, hn1, ex3, dn]
      have m3 : MOk S n [x3] en ws := ⟨hS, by omega, by omega, by simp, hen ▸ List.nodup_range.sublist List.filter_sublist, by omega, fun y hy => by simp at hy; omega, fun y hy => List.mem_range.mp (List.mem_filter.mp (hen ▸ hy)).1, hw⟩
      obtain ⟨mz, hmz, hmz1⟩ : ∃ mz : Nat, (1 ≤ mz ∧ (ws ≠ [] → mz = ws.length)) ∧ maxD [.int 1, .int ws.length] = some (.int mz) := by
        by_cases h1 : (1 : Int) < ws.length
        · refine ⟨ws.length, ⟨by omega, fun _ => rfl⟩, ?_⟩
          show some (D.int (if (ws.length : Int) > 1 then (ws.length : Int) else 1)) = _
          rw [if_pos h1]
        · refine ⟨1, ⟨by omega, fun h => ?_⟩, ?_⟩
          · have : ws.length ≠ 0 := fun z => h (List.length_eq_zero_iff.mp z)
            omega
          · show some (D.int (if (ws.length : Int) > 1 then (ws.length : Int) else 1)) = _
            rw [if_neg h1]
            rfl
      obtain ⟨x9, hx9, ex9⟩ := modN (c / 32) (n := mz) hmz.1
      have hm0 : (0 : Int) < (mz : Int) := by omega
      have hm1 : 0 < mz := by omega
      have t4 : evS 0 (.asg (.nm 9) (.bin .mod (.bin .div (.var 3) (.cst (.int 32))) (.pu false maxD [(.cst (.int 1)), (.b1 .len (.var 7))]))) (lSt ns S n c (partsD S n [x3] en ws) .un .un (.im (.lst (ws.map Wy.d))) (.im (.lst (dn en))) .un .un .un) = .ok (.nx, lSt ns S n c (partsD S n [x3] en ws) .un .un (.im (.lst (ws.map Wy.d))) (.im (.lst (dn en))) (.im (.int x9)) .un .un) := by
        unfold lSt
        simp [binD, divD, modD, b1D, lenD, hmz1, hm0, hm1, ex9]
      obtain ⟨w5, m5, u5⟩ := b5 (ns := ns) (c := c) m3 hw hl x9 .un
      obtain ⟨w6, e11, m6, u6⟩ := b6 (ns := ns) (c := c) m5 hw hl x9 (fun h => by have := hmz.2 h; omega)
      obtain ⟨st7, w7, m7, u7⟩ := b7 (ns := ns) (c := c) m6 hw hl (.im (.int x9)) e11
      obtain ⟨st8, w8, m8, u8⟩ := b8 (ns := ns) (c := c) m7 hw hl (.im (.int x9)) e11
      refine ⟨n, st8, en, w8, .im (.lst (ws.map Wy.d)), .im (.lst (dn en)), .im (.int x9), e11, by omega, m8, ?_⟩
      show evS 0 (.ite (.cmp .lt (.bin .mod (.var 3) (.cst (.int 8))) (.cst (.int 7))) _ _) _ = _
      have cnd : ev (.cmp .lt (.bin .mod (.var 3) (.cst (.int 8))) (.cst (.int 7))) (lSt ns S n c (partsD S n0 st0 en0 ws0) .un .un .un .un .un .un .un) = .ok (.bl true, lSt ns S n c (partsD S n0 st0 en0 ws0) .un .un .un .un .un .un .un) := by
        unfold lSt
        simp [binD, modD, cmpD, h7]
      rw [evS_ite, cnd]
      simp only [Out.bind_ok]
      rw [evSs_step t1, evSs_step t2, evSs_step t3, evSs_step t4, evSs_step u5, evSs_step u6, evSs_step u7, evSs_step u8]
      rfl
    · refine ⟨n0, st0, en0, ws0, .un, .un, .un, .un, g2, m0, ?_⟩
      show evS 0 (.ite (.cmp .lt (.bin .mod (.var 3) (.cst (.int 8))) (.cst (.int 7))) _ _) _ = _
      have cnd : ev (.cmp .lt (.bin .mod (.var 3) (.cst (.int 8))) (.cst (.int 7))) (lSt ns S n c (partsD S n0 st0 en0 ws0) .un .un .un .un .un .un .un) = .ok (.bl false, lSt ns S n c (partsD S n0 st0 en0 ws0) .un .un .un .un .un .un .un) := by
        unfold lSt
        simp [binD, modD, cmpD, h7]
      rw [evS_ite, cnd]
      rfl
  obtain ⟨n5, st, en, ws, e7, e8, e9, e11, hn5, m5, s5⟩ := s5
  have md := made_eq m5
  have s6 : evS 0 (.asg (.nm 5) (.call PG.E__law_made [(.var 4)])) (lSt ns S n c (partsD S n5 st en ws) .un .un e7 e8 e9 .un e11) = .ok (.nx, lSt ns S n c (partsD S n5 st en ws) (.im (mach S n5 st en ws)) .un e7 e8 e9 .un e11) := by
    unfold lSt
    simp [md]
  obtain ⟨vs, hv1, hv2⟩ := rows_ex ws
  have lw := m5.lw
  have lvs : vs.length ≤ 4000 := by
    have := hv2.length_eq
    have := wsN_len ws
    omega
  have ip := is_plain_eq (S := S) (n := n5) (st := st) (en := en) hS (by omega) hv1 lvs
  have li := law_is_plain_eq (S := S) (n := n5) (st := st) (en := en) (ws := ws) hS (by omega) lw
  have pe := plain_iff hS st hv2 (fun w hw => m5.ws w (wsN_mem.mp hw))
  rw [pe] at ip
  generalize lPl S n5 st (wsN ws) = b at ip li
  have lp := for_inv (body := evSs 0 [.asg (.nm 10) (.call PG.E_is_plain [(.var 5)]), .ite (.or [(.not (.isi (.var 10) "bool")), (.cmp .ne (.var 10) (.call E__law_is_plain [(.var 4)]))]) [.ret (.cst (.bl false))] []]) (tg := .nm 6)
    (fun i ρ => ∃ e6 e10 : Ent, isUI e6 = true ∧ isUI e10 = true ∧ ρ = lSt ns S n c (partsD S n5 st en ws) (.im (mach S n5 st en ws)) e6 e7 e8 e9 e10 e11) (rngD 0 2) 0 _ ⟨.un, .un, rfl, rfl, rfl⟩ (fun j ρ d hd ⟨e6, e10, u6, u10, e⟩ => by
      subst e
      have q1 : setT (.nm 6) d (lSt ns S n c (partsD S n5 st en ws) (.im (mach S n5 st en ws)) e6 e7 e8 e9 e10 e11) = some (lSt ns S n c (partsD S n5 st en ws) (.im (mach S n5 st en ws)) (.im d) e7 e8 e9 e10 e11) := by rcases isUI_or u6 with rfl | ⟨x, rfl⟩ <;> rfl
      have q2 : evS 0 (.asg (.nm 10) (.call PG.E_is_plain [(.var 5)])) (lSt ns S n c (partsD S n5 st en ws) (.im (mach S n5 st en ws)) (.im d) e7 e8 e9 e10 e11) = .ok (.nx, lSt ns S n c (partsD S n5 st en ws) (.im (mach S n5 st en ws)) (.im d) e7 e8 e9 (.im (.bl b)) e11) := by
        unfold lSt
        rcases isUI_or u10 with rfl | ⟨x, rfl⟩ <;> simp [ip]
      have q3 : evS 0 (.ite (.or [(.not (.isi (.var 10) "bool")), (.cmp .ne (.var 10) (.call E__law_is_plain [(.var 4)]))]) [.ret (.cst (.bl false))] []) (lSt ns S n c (partsD S n5 st en ws) (.im (mach S n5 st en ws)) (.im d) e7 e8 e9 (.im (.bl b)) e11) = .ok (.nx, lSt ns S n c (partsD S n5 st en ws) (.im (mach S n5 st en ws)) (.im d) e7 e8 e9 (.im (.bl b)) e11) := by
        unfold lSt
        simp [evSs_cons, evS_for, ev_comp, rho0, entOf, isiD, tyN, tyL, isiB, b1D, lenD, cmpD, eqOk, eqD, eqL, D.dep, D.depL, iterD, itemsD, lockE, unlockE, idxD, slD, binD, addD, subD, mulD, divD, modD, negD, li]
      exact ⟨_, _, q1, by rw [evSs_step q2, evSs_step q3]; rfl, .im d, .im (.bl b), rfl, rfl, rfl⟩)
  obtain ⟨ρ', lp1, e6, e10, u6, u10, rfl⟩ := lp
  have s7 := for_ok (n := 0) (ρ := lSt ns S n c (partsD S n5 st en ws) (.im (mach S n5 st en ws)) .un e7 e8 e9 .un e11) (ρ4 := lSt ns S n c (partsD S n5 st en ws) (.im (mach S n5 st en ws)) e6 e7 e8 e9 e10 e11) (args := [(.cst (.int 2))]) (k := .rng1) rfl (iter_rng (n := 2) (by omega)) rfl lp1 rfl
  refine run_ret (ρ' := lSt ns S n c (partsD S n5 st en ws) (.im (mach S n5 st en ws)) e6 e7 e8 e9 e10 e11) ?_ rfl
  rw [hr]
  show evSs 0 (_ :: _ :: _ :: _ :: m_law.getD 4 .retN :: _ :: _ :: _ :: []) _ = _
  rw [evSs_step s1, evSs_step s2, evSs_step s3, evSs_step s4, evSs_step s5]
  refine (evSs_step s6).trans ?_
  refine (evSs_step s7).trans ?_
  rfl
end K4



open PySem PySem.W PyProof.Rows in
set_option maxRecDepth 100000 in
set_option maxHeartbeats 0 in
theorem PySem.Challenge.cw_nestwords_k04_plain_or_not_holds : PySem.Challenge.rw_nestwords_k04_plain_or_not.Holds := by
  w_on; o_law; k_head; (case hw => w_witness2)
  k_fill
  refine K4.walk (l := PySem.Challenge.rw_nestwords_k04_plain_or_not) rfl rfl (fun w h Y => PySem.W.kIn_of Y) ?F
  case F =>
    intro w mg fa h KX G hmg
    refine' K4.all_mk KX G hmg K4.law_eq ?mA ?a0 ?l0 ?d0 ?k0 ?a1 ?l1 ?d1 ?k1 ?a2 ?l2 ?d2 ?k2 ?a3 ?l3 ?d3 ?k3 ?a4 ?l4 ?d4 ?k4 ?a5 ?l5 ?d5 ?k5 ?a6 ?l6 ?d6 ?k6 ?a7 ?i7 ?l7 ?d7 ?k7 ?a8 ?i8 ?l8 ?d8 ?k8 ?a9 ?i9 ?l9 ?d9 ?k9 ?a10 ?i10 ?l10 ?d10 ?k10 ?a11 ?i11 ?l11 ?d11 ?k11 ?a12 ?i12 ?l12 ?d12 ?k12 ?a13 ?l13 ?d13 ?k13 ?a14 ?l14 ?d14 ?k14 ?a15 ?l15 ?d15 ?k15 ?a16 ?l16 ?d16 ?k16 ?a17 ?l17 ?d17 ?k17 ?a18 ?l18 ?d18 ?k18 ?a19 ?l19 ?d19 ?k19 ?a20 ?l20 ?d20 ?k20 ?a21 ?l21 ?d21 ?k21 ?a22 ?l22 ?d22 ?k22 ?a23 ?l23 ?d23 ?k23 ?a24 ?l24 ?d24 ?k24 ?q0 ?q1 ?q2 ?q3 ?z_len ?z_all ?z_any ?z_int ?z_tuple ?z_list ?z_isinstance ?z_range ?z_zip ?z_enumerate ?z_set ?z_str ?z_bool ?z_max ?z_sorted ?gs ?tk ?mpg ?mhd ?mpo ?msa ?mmk ?mkc ?mha ?mhm ?mic ?mty ?mf0 ?mf1 ?mf2 ?mf3 ?mf4 ?mt0 ?mt1 ?mt2 ?mt3 ?mt4 ?mu0 ?mu1 ?mu2 ?mu3 ?mu4 ?mu5 ?mu6 ?e0 ?eA0 ?eB0 ?eC0 ?eD0 ?eE0 ?eF0 ?eG0 ?eH0 ?eI0 ?eJ0 ?eK0 ?e2 ?eA2 ?eB2 ?eC2 ?eD2 ?eE2 ?eF2 ?eG2 ?eH2 ?eI2 ?eJ2 ?eK2
    (case mA => k_is)
    (case a0 => k_is)
    (case l0 => k_is)
    (case d0 => k_is)
    (case k0 => k_is)
    (case a1 => k_is)
    (case l1 => k_is)
    (case d1 => k_is)
    (case k1 => k_is)
    (case a2 => k_is)
    (case l2 => k_is)
    (case d2 => k_is)
    (case k2 => k_is)
    (case a3 => k_is)
    (case l3 => k_is)
    (case d3 => k_is)
    (case k3 => k_is)
    (case a4 => k_is)
    (case l4 => k_is)
    (case d4 => k_is)
    (case k4 => k_is)
    (case a5 => k_is)
    (case l5 => k_is)
    (case d5 => k_is)
    (case k5 => k_is)
    (case a6 => k_is)
    (case l6 => k_is)
    (case d6 => k_is)
    (case k6 => k_is)
    (case a7 => k_is)
    (case i7 => k_is)
    (case l7 => k_is)
    (case d7 => k_is)
    (case k7 => k_is)
    (case a8 => k_is)
    (case i8 => k_is)
    (case l8 => k_is)
    (case d8 => k_is)
    (case k8 => k_is)
    (case a9 => k_is)
    (case i9 => k_is)
    (case l9 => k_is)
    (case d9 => k_is)
    (case k9 => k_is)
    (case a10 => k_is)
    (case i10 => k_is)
    (case l10 => k_is)
    (case d10 => k_is)
    (case k10 => k_is)
    (case a11 => k_is)
    (case i11 => k_is)
    (case l11 => k_is)
    (case d11 => k_is)
    (case k11 => k_is)
    (case a12 => k_is)
    (case i12 => k_is)
    (case l12 => k_is)
    (case d12 => k_is)
    (case k12 => k_is)
    (case a13 => k_is)
    (case l13 => k_is)
    (case d13 => k_is)
    (case k13 => k_is)
    (case a14 => k_is)
    (case l14 => k_is)
    (case d14 => k_is)
    (case k14 => k_is)
    (case a15 => k_is)
    (case l15 => k_is)
    (case d15 => k_is)
    (case k15 => k_is)
    (case a16 => k_is)
    (case l16 => k_is)
    (case d16 => k_is)
    (case k16 => k_is)
    (case a17 => k_is)
    (case l17 => k_is)
    (case d17 => k_is)
    (case k17 => k_is)
    (case a18 => k_is)
    (case l18 => k_is)
    (case d18 => k_is)
    (case k18 => k_is)
    (case a19 => k_is)
    (case l19 => k_is)
    (case d19 => k_is)
    (case k19 => k_is)
    (case a20 => k_is)
    (case l20 => k_is)
    (case d20 => k_is)
    (case k20 => k_is)
    (case a21 => k_is)
    (case l21 => k_is)
    (case d21 => k_is)
    (case k21 => k_is)
    (case a22 => k_is)
    (case l22 => k_is)
    (case d22 => k_is)
    (case k22 => k_is)
    (case a23 => k_is)
    (case l23 => k_is)
    (case d23 => k_is)
    (case k23 => k_is)
    (case a24 => k_is)
    (case l24 => k_is)
    (case d24 => k_is)
    (case k24 => k_is)
    (case q0 => k_is)
    (case q1 => k_is)
    (case q2 => k_is)
    (case q3 => k_is)
    (case z_len => k_is)
    (case z_all => k_is)
    (case z_any => k_is)
    (case z_int => k_is)
    (case z_tuple => k_is)
    (case z_list => k_is)
    (case z_isinstance => k_is)
    (case z_range => k_is)
    (case z_zip => k_is)
    (case z_enumerate => k_is)
    (case z_set => k_is)
    (case z_str => k_is)
    (case z_bool => k_is)
    (case z_max => k_is)
    (case z_sorted => k_is)
    (case gs => k_is)
    (case tk => k_is)
    (case mpg => k_is)
    (case mhd => k_is)
    (case mpo => k_is)
    (case msa => k_is)
    (case mmk => k_is)
    (case mkc => k_is)
    (case mha => k_is)
    (case mhm => k_is)
    (case mic => k_is)
    (case mty => k_is)
    (case mf0 => k_is)
    (case mf1 => k_is)
    (case mf2 => k_is)
    (case mf3 => k_is)
    (case mf4 => k_is)
    (case mt0 => k_is)
    (case mt1 => k_is)
    (case mt2 => k_is)
    (case mt3 => k_is)
    (case mt4 => k_is)
    (case mu0 => k_is)
    (case mu1 => k_is)
    (case mu2 => k_is)
    (case mu3 => k_is)
    (case mu4 => k_is)
    (case mu5 => k_is)
    (case mu6 => k_is)
    (case e0 => k_is)
    (case eA0 => k_exc)
    (case eB0 => k_is)
    (case eC0 => k_is)
    (case eD0 => k_is)
    (case eE0 => k_is)
    (case eF0 => k_is)
    (case eG0 => k_is)
    (case eH0 => k_is)
    (case eI0 => k_is)
    (case eJ0 => k_is)
    (case eK0 => k_is)
    (case e2 => k_is)
    (case eA2 => k_exc)
    (case eB2 => k_is)
    (case eC2 => k_is)
    (case eD2 => k_is)
    (case eE2 => k_is)
    (case eF2 => k_is)
    (case eG2 => k_is)
    (case eH2 => k_is)
    (case eI2 => k_is)
    (case eJ2 => k_is)
    (case eK2 => k_is)


