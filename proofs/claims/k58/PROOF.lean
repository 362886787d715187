import PyProof.Rows.All
import Wide.All
import OpenK.AllK
import Wide.FinOn
import HandS.Base
import HandS.DictComp
import HandS.Comp
import HandS.Strs
import HandS.ForMost
import HandS.ForExc
import HandS.CallSlots
import HandS.TryMany
import HandS.HotCalls
import HandS.More
import HandS.Conv
import HandS.SortOrd
import HandS.Style
import HandS.Zip
import HandS.IsInst
import HandS.TupLen
import KE.LtData
import KE.DataEq
import KE.SortData
import KE.DataIsa
import HandS.TupAny
import HandS.TupMul
import HandS.Deep
import HandS.Wide
import HandS.Small
import KE.GoesEnum
import HandS.WordsExc
import HandS.EndBits
import PySem.Challenge.RW_lasttouch_k58_grounds_and_shortened_word
set_option Elab.async false
set_option linter.all false
set_option maxRecDepth 100000
set_option maxHeartbeats 4000000
section
namespace Mi
open PySem
def ddStep (acc : List Str) (x : Str) : List Str := if acc.any (· == x) = true then acc else acc ++ [x]
def ddS (xs : List Str) : List Str := xs.foldl ddStep []
end Mi
end
section
namespace Mi
open PySem PySem.Spec PyProof.Rows L2
theorem dturn0 (kx vx t0 i0 t1 i1 : Expr) (sc : Scope) (pos : Pos) (it acc : Value) (env : Env) :
    compTurn (.DictComp kx vx [⟨t0, i0, [], 0⟩, ⟨t1, i1, [], 0⟩] sc pos) 0 it acc env = (do
      standAt i0.pos
      match ← pyNext it with
      | none => pure (.done .next)
      | some v =>
        letOwnedTupleGo t0 it v
        assign t0 env v
        let x ← eval i1 env
        standAt i1.pos
        let x ← foldedSetIterable i1 env x
        let _ ← runOwn (.compStart (.DictComp kx vx [⟨t0, i0, [], 0⟩, ⟨t1, i1, [], 0⟩] sc pos) 1 (← holding [x] (pyIter x)) acc env) env
        again (.compLoop (.DictComp kx vx [⟨t0, i0, [], 0⟩, ⟨t1, i1, [], 0⟩] sc pos) 0 it acc env)) := by rfl
theorem dturn1 (kx vx t0 i0 t1 i1 : Expr) (sc : Scope) (pos : Pos) (it : Value) (D : Addr) (env : Env) :
    compTurn (.DictComp kx vx [⟨t0, i0, [], 0⟩, ⟨t1, i1, [], 0⟩] sc pos) 1 it (.ref D) env = (do
      standAt i1.pos
      match ← pyNext it with
      | none => pure (.done .next)
      | some v =>
        letOwnedTupleGo t1 it v
        assign t1 env v
        (do
          let kv ← eval kx env
          let vv ← holding [kv] (eval vx env)
          standAt { kx.pos with endLine := vx.pos.endLine, endCol := vx.pos.endCol }
          holding [kv, vv] (dictSet D kv vv))
        again (.compLoop (.DictComp kx vx [⟨t0, i0, [], 0⟩, ⟨t1, i1, [], 0⟩] sc pos) 1 it (.ref D) env)) := by rfl
section
variable {prog : Program} {w : World} {A : Around} {R : Result → Shared → Prop} {s : Shared} {kx vx t0 i0 t1 i1 : Expr} {sc : Scope} {pos : Pos} {it : Value} {D : Addr} {env : Env}
abbrev NB (prog : Program) (w : World) (A : Around) (env : Env) (R : Result → Shared → Prop) : Value → Shared → Prop := notedBy (model prog w) A env fun e s' => R (.error e) s'
theorem dloop0 (hs : ∀ x, foldedSetIterable i1 env x = pure x) (P : Nat → Shared → Prop)
    (turn : ∀ n s, P n s → wpAny (model prog w) A (pyNext it) (fun r a => match r with
      | none => R (.ok .next) a
      | some v => wpAny (model prog w) A (letOwnedTupleGo t0 it v) (fun _ b => wpAny (model prog w) A (assign t0 env v) (fun _ c => wpAny (model prog w) A (eval i1 env) (fun x d => wpAny (model prog w) A (pyIter x) (fun it1 e =>
          codeAny (model prog w) A (.compStart (.DictComp kx vx [⟨t0, i0, [], 0⟩, ⟨t1, i1, [], 0⟩] sc pos) 1 it1 (.ref D) env) (fun r s' => match r with
            | .ok _ => ∃ m, m < n ∧ P m s'
            | .error _ => False) e) (NB prog w A env R) d) (NB prog w A env R) c) (NB prog w A env R) b) (NB prog w A env R) a) (NB prog w A env R) s)
    (n : Nat) (h : P n s) : codeAny (model prog w) A (.compLoop (.DictComp kx vx [⟨t0, i0, [], 0⟩, ⟨t1, i1, [], 0⟩] sc pos) 0 it (.ref D) env) R s := by
  refine codeAny_loop rfl P (fun n s hP => ?_) n h
  show wpAny _ A ((compTurn (.DictComp kx vx [⟨t0, i0, [], 0⟩, ⟨t1, i1, [], 0⟩] sc pos) 0 it (.ref D) env).onRaise (fun x => do noteFrame x env; theTreesLotGoes x)) _ _ s
  refine wpAny_noted ?_
  rw [dturn0]
  refine wpAny_bind (wpAny_standAt (wpAny_bind (wpAny_mono (turn n s hP) (fun r a ha => ?_) fun _ _ z => z)))
  cases r with
  | none => exact wpAny_pure ha
  | some v =>
    refine wpAny_bind (wpAny_mono ha (fun _ b hb => ?_) fun _ _ z => z)
    refine wpAny_bind (wpAny_mono hb (fun _ c hc => ?_) fun _ _ z => z)
    refine wpAny_bind (wpAny_mono hc (fun x d hd => ?_) fun _ _ z => z)
    refine wpAny_bind (wpAny_standAt (wpAny_bind (wpAny_of_eq (hs x) (wpAny_bind (wpAny_holding (wpAny_mono hd (fun it1 e he => ?_) fun _ _ z => z))))))
    refine wpAny_bind (wpAny_runOwn ?_)
    rw [Around.mark_none]
    refine codeAny_mono he fun r s' hr => ?_
    cases r with
    | ok f => first | exact wpAny_pure ⟨rfl, hr⟩ | exact wpAny_bind (wpAny_pure (wpAny_pure ⟨rfl, hr⟩))
    | error e => exact hr.elim
theorem dloop1 (P : Nat → Shared → Prop)
    (turn : ∀ n s, P n s → wpAny (model prog w) A (pyNext it) (fun r a => match r with
      | none => R (.ok .next) a
      | some v => wpAny (model prog w) A (letOwnedTupleGo t1 it v) (fun _ b => wpAny (model prog w) A (assign t1 env v) (fun _ c => wpAny (model prog w) A (eval kx env) (fun kv d => wpAny (model prog w) A (eval vx env) (fun vv e =>
          wpAny (model prog w) A (dictSet D kv vv) (fun _ s' => ∃ m, m < n ∧ P m s') (NB prog w A env R) e) (NB prog w A env R) d) (NB prog w A env R) c) (NB prog w A env R) b) (NB prog w A env R) a) (NB prog w A env R) s)
    (n : Nat) (h : P n s) : codeAny (model prog w) A (.compLoop (.DictComp kx vx [⟨t0, i0, [], 0⟩, ⟨t1, i1, [], 0⟩] sc pos) 1 it (.ref D) env) R s := by
  refine codeAny_loop rfl P (fun n s hP => ?_) n h
  show wpAny _ A ((compTurn (.DictComp kx vx [⟨t0, i0, [], 0⟩, ⟨t1, i1, [], 0⟩] sc pos) 1 it (.ref D) env).onRaise (fun x => do noteFrame x env; theTreesLotGoes x)) _ _ s
  refine wpAny_noted ?_
  rw [dturn1]
  refine wpAny_bind (wpAny_standAt (wpAny_bind (wpAny_mono (turn n s hP) (fun r a ha => ?_) fun _ _ z => z)))
  cases r with
  | none => exact wpAny_pure ha
  | some v =>
    refine wpAny_bind (wpAny_mono ha (fun _ b hb => ?_) fun _ _ z => z)
    refine wpAny_bind (wpAny_mono hb (fun _ c hc => ?_) fun _ _ z => z)
    refine wpAny_bind (wpAny_bind (wpAny_mono hc (fun kv d hd => ?_) fun _ _ z => z))
    refine wpAny_bind (wpAny_holding (wpAny_mono hd (fun vv e he => ?_) fun _ _ z => z))
    exact wpAny_bind (wpAny_standAt (wpAny_holding (wpAny_mono he (fun _ s' hs' => wpAny_pure ⟨rfl, hs'⟩) fun _ _ z => z)))
theorem dstart1 {acc : Value} (h0 : codeAny (model prog w) A (.compLoop (.DictComp kx vx [⟨t0, i0, [], 0⟩, ⟨t1, i1, [], 0⟩] sc pos) 1 it acc env) R s)
    (h : wpAny (model prog w) A (pyIter it) (fun j s' => codeAny (model prog w) A (.compLoop (.DictComp kx vx [⟨t0, i0, [], 0⟩, ⟨t1, i1, [], 0⟩] sc pos) 1 j acc env) R s') (NB prog w A env R) s) :
    codeAny (model prog w) A (.compStart (.DictComp kx vx [⟨t0, i0, [], 0⟩, ⟨t1, i1, [], 0⟩] sc pos) 1 it acc env) R s := by
  refine codeAny_of_tree ?_
  show wpAny _ _ ((compStart (.DictComp kx vx [⟨t0, i0, [], 0⟩, ⟨t1, i1, [], 0⟩] sc pos) 1 it acc env).onRaise (fun x => do noteFrame x env; standAt theWindowsPlace)) _ _ s
  refine wpAny_notedAt ?_
  unfold compStart
  show wpAny _ _ (ask >>= _) _ _ s
  refine wpAny_bind (wpAny_askSetting (wpAny_ite ?_))
  split
  · first
      | exact wpAny_bind (wpAny_pure (wpAny_pure (And.intro rfl h0)))
      | exact wpAny_pure (And.intro rfl h0)
  · first
      | exact wpAny_bind (wpAny_rule (wpAny_bind (wpAny_standAt (wpAny_bind (wpAny_mono h (fun j s' hj => wpAny_pure (And.intro rfl hj)) fun _ _ z => z)))))
      | (refine wpAny_bind (wpAny_rule ?_); show wpAny _ _ (standAt i1.pos >>= _) _ _ s; exact wpAny_bind (wpAny_standAt (wpAny_bind (wpAny_mono h (fun j s' hj => wpAny_pure (And.intro rfl hj)) fun _ _ z => z))))
end
end Mi
end
section
namespace Mi
open PySem PySem.Spec PyProof.Rows
theorem ddStep_any (acc : List Str) (x k : Str) : (ddStep acc x).any (· == k) = (acc.any (· == k) || decide (k = x)) := by
  unfold ddStep
  by_cases h : acc.any (· == x) = true
  · rw [if_pos h]
    by_cases e : k = x
    · subst e; rw [h]; simp
    · simp [e]
  · rw [if_neg h, List.any_append]
    by_cases e : k = x
    · subst e; simp
    · have : (x == k) = false := by simpa [beq_iff_eq] using fun z : x = k => e z.symm
      simp [this, e]
theorem ddStep_len (acc : List Str) (x : Str) : (ddStep acc x).length = if acc.any (· == x) = true then acc.length else acc.length + 1 := by
  unfold ddStep
  split <;> simp
theorem ddS_take {xs : List Str} {i : Nat} (h : i < xs.length) : ddS (xs.take (i + 1)) = ddStep (ddS (xs.take i)) (xs.getD i Str.empty) := by
  unfold ddS
  rw [List.take_succ, List.getElem?_eq_getElem h, List.foldl_append]
  simp [List.getD, List.getElem?_eq_getElem h]
theorem ddS_le : ∀ xs : List Str, (ddS xs).length ≤ xs.length := by
  have k : ∀ (xs acc : List Str), (xs.foldl ddStep acc).length ≤ acc.length + xs.length := fun xs => by
    induction xs with
    | nil => intro acc; simp
    | cons x r ih =>
      intro acc
      have h1 := ih (ddStep acc x)
      have h2 : (ddStep acc x).length ≤ acc.length + 1 := by rw [ddStep_len]; split <;> omega
      simp only [List.foldl_cons, List.length_cons]
      omega
  intro xs
  have := k xs []
  simpa [ddS] using this
section
variable {prog : Program} {w : World} {A : Around} {R : Result → Shared → Prop} {I : Addr} {fp wr : List Addr} {G : Array GenState → Array GenState → Prop} {n : Nat} {P : Nat → Value → Prop} {St : Nat → Shared → Prop}
theorem set_loop (W : WalksS prog w A.in1 I fp wr G n P St) (S : Addr) (hS : S ∉ fp) (xs : List Str) (hn : xs.length = n) (hb : n + 1 < scanBound) (hv : ∀ i v, P i v → ∃ t, v = .str (xs.getD i Str.empty) t) :
    ∀ (k i : Nat) (s : Shared), n - i = k → i ≤ n → St i s → s.heap.SetOf (PySem.strKind prog w) S (fun z => (ddS (xs.take i)).any (· == z)) (ddS (xs.take i)).length →
      (∀ s', Moved (S :: wr) G s s' → s'.heap.SetOf (PySem.strKind prog w) S (fun z => (ddS (xs.take n)).any (· == z)) (ddS (xs.take n)).length → R (.ok (.ret .none)) s') →
      codeAny (model prog w) A (.builtin "set.update.loop" ⟨[.ref S, .ref I], []⟩) R s := by
  have nw : S ∉ wr := fun z => hS (W.sub _ z)
  have sb : ∀ b ∈ wr, b ∈ S :: wr := fun b hb => List.mem_cons_of_mem _ hb
  intro k
  induction k with
  | zero =>
    intro i s hk hi st so q
    have ei : i = n := by omega
    subst ei
    refine codeAny_builtin PyProof.Rows.F.entry_set_update_loop ?_
    rw [Around.under_plainId PyProof.Rows.F.plain_set_update_loop _]
    show wpAny _ A.in1 (pyNext (.ref I) >>= _) _ _ s
    refine wpAny_bind (W.done s _ _ st fun a hm => ?_)
    show wpAny _ A.in1 (ret Value.none) _ _ a
    exact wpAny_pure (q a (hm.mono sb) (let ⟨o, es, ep, t, ho, z⟩ := so; ⟨o, es, ep, t, hm.heap S _ nw ho, z⟩))
  | succ k ih =>
    intro i s hk hi st so q
    have hlt : i < n := by omega
    refine codeAny_builtin PyProof.Rows.F.entry_set_update_loop ?_
    rw [Around.under_plainId PyProof.Rows.F.plain_set_update_loop _]
    show wpAny _ A.in1 (pyNext (.ref I) >>= _) _ _ s
    refine wpAny_bind (W.item i s _ _ hlt st fun v a hP st' hm => ?_)
    obtain ⟨t, rfl⟩ := hv i v hP
    have so' : a.heap.SetOf (PySem.strKind prog w) S (fun z => (ddS (xs.take i)).any (· == z)) (ddS (xs.take i)).length := let ⟨o, es, ep, tb, ho, z⟩ := so; ⟨o, es, ep, tb, hm.heap S _ nw ho, z⟩
    show wpAny _ A.in1 (holding [Value.str (xs.getD i Str.empty) t] (setAdd S (.str (xs.getD i Str.empty) t)) >>= _) _ _ a
    refine wpAny_bind (wpAny_holding ?_)
    unfold setAdd
    refine wpAny_holding ?_
    refine wpAny_bind ((PySem.strKind prog w).pyHash (k := xs.getD i Str.empty) (strKind_is _ _ _ _) ?_)
    have room : (ddS (xs.take i)).length + 1 < scanBound := by
      have := ddS_le (xs.take i)
      rw [List.length_take] at this
      omega
    refine wpAny_setAddHashed_of (knd := PySem.strKind prog w) (s := { a with toks := a.toks + 1 }) (strKind_is _ _ _ _) rfl so' room fun g same s2 => ?_
    have s3 : g.SetOf (PySem.strKind prog w) S (fun z => (ddS (xs.take (i + 1))).any (· == z)) (ddS (xs.take (i + 1))).length :=
      SetOf_congr s2 (fun z => by rw [ddS_take (by omega), ddStep_any]) (by rw [ddS_take (by omega), ddStep_len])
    refine wpAny_pure ⟨plainId_quiet PyProof.Rows.F.plain_set_update_loop _, ih (i + 1) _ (by omega) hlt (W.frame _ a _ _ st' (Nat.le_succ _) fun b hb o e => ?_) s3 fun c hm2 s4 => ?_⟩
    · rw [same.2 b fun z : b = S => hS (z ▸ hb)]; exact e
    · refine q c (Moved.trans W.gtrans ((hm.mono sb).then_heap (Nat.le_succ _) fun b o hb e => ?_) hm2) s4
      rw [same.2 b fun z : b = S => hb (by rw [z]; exact List.mem_cons_self)]; exact e
end
section
variable {prog : Program} {w : World} {A : Around} {E : Value → Shared → Prop} {s : Shared}
set_option maxHeartbeats 8000000 in
theorem set_of_list {l : Addr} {vs : Array Value} {xs : List Str} {Q : Value → Shared → Prop} (hh : A.handled = none) (hl : s.heap.IsList l vs) (hx : StrsAre vs.toList xs) (hb : xs.length + 1 < scanBound)
    (q : ∀ (g : Heap) (tk : Nat), g.SetOf (PySem.strKind prog w) s.heap.objs.size (fun z => (ddS xs).any (· == z)) (ddS xs).length → (∀ b o, b < s.heap.objs.size → s.heap.get? b = some o → g.get? b = some o) → Q (.ref s.heap.objs.size) { s with heap := g, toks := tk }) :
    wpAny (model prog w) A (call (.type "set") [.ref l]) Q E s := by
  obtain ⟨mc, mt, hm⟩ := PySem.F.called_set.mro
  have k1 := PySem.F.called_set.made
  have k2 := PySem.F.called_set.sub
  have sz : xs.length = vs.size := by rw [← StrsAre.len_eq hx, Array.length_toList]
  have ex : xs.take vs.size = xs := by rw [← sz, List.take_length]
  refine wpAny_call (codeAny_of_tree ?_)
  show wpAny _ _ (callAny (.type "set") _) _ _ _
  refine wpAny_pure ⟨Code.quiet_builtin _ (by decide +kernel), codeAny_builtin PySem.F.entry_type_call ?_⟩
  rw [Around.under_plain (weight_type_call_type "set" [.ref l] []) rfl]
  have k3 := PySem.F.called_set.notType
  have k4 := PySem.F.called_set.canCreate
  have k5 := PySem.F.typeCall_set_1 (.ref l)
  repeat (any_goals (first | assumption | wp_step))
  refine codeAny_mono (code_set_new_1 (.ref l) (E := E) (Q₁ := fun ob a => ∃ led : Bool, ob = .ref s.heap.objs.size ∧ a = { s with heap := s.heap.push { cls := .type "set", dict := none, data := .set #[] 0 (.fresh 0 0 led) } }) fun led => ⟨led, rfl, rfl⟩) fun r a hr => ?_
  cases r with
  | error e => exact hr
  | ok fl =>
    cases fl with
    | ret ob =>
      obtain ⟨led, rfl, rfl⟩ := hr
      have gS : (s.heap.push { cls := .type "set", dict := none, data := .set #[] 0 (.fresh 0 0 led) }).get? s.heap.objs.size = some { cls := .type "set", dict := none, data := .set #[] 0 (.fresh 0 0 led) } := Heap.get?_push_size _ rfl
      have tS : Shared.TypeIs { s with heap := s.heap.push { cls := .type "set", dict := none, data := .set #[] 0 (.fresh 0 0 led) } } (.ref s.heap.objs.size) "set" := ⟨_, gS, rfl⟩
      have k6 := PySem.F.called_set.init.lookup
      have k7 := PySem.F.called_set.init.bind (.ref s.heap.objs.size)
      repeat (any_goals (first | assumption | wp_step))
      refine codeAny_mono (codeAny_call_builtin (R := wants (fun r b => r = .none ∧ ∃ g tk, b = { s with heap := g, toks := tk } ∧ g.SetOf (PySem.strKind prog w) s.heap.objs.size (fun z => (ddS (xs.take vs.size)).any (· == z)) (ddS (xs.take vs.size)).length ∧
          (∀ b o, b < s.heap.objs.size → s.heap.get? b = some o → g.get? b = some o)) E) PySem.F.called_set.init.plain PySem.F.entry_set_init (check_set_init_1 tS ?_)) fun r2 a2 hr2 => ?_
      · obtain ⟨ob, hob, hcl, nl, hdl⟩ := hl
        obtain ⟨oc, od, oda, osl⟩ := ob
        simp only at hcl hdl
        subst hcl; subst hdl
        have hob' : (s.heap.push { cls := .type "set", dict := none, data := .set #[] 0 (.fresh 0 0 led) }).get? l = some { cls := .type "list", dict := od, data := .seq vs nl, slots := osl } := Heap.get?_push_of_some _ hob
        have k8 := PySem.F.sub_list_set
        have k9 := PySem.F.sub_list_frozenset
        have k0 : (Value.type "list" == Value.type "dict") = false := by decide
        have hl1 : (s.heap.push { cls := .type "set", dict := none, data := .set #[] 0 (.fresh 0 0 led) }).IsList l vs := ⟨_, hob', rfl, nl, rfl⟩
        unfold Builtin.«set.__init__» noKeywords Builtin.Frozenset.updateFrom
        generalize ePI : pyIter = PI
        wp_walk
        subst ePI
        refine wpAny_pyIter_list hl1 ?_
        refine wpAny_bind (wpAny_runValue ?_)
        have lS : l < s.heap.objs.size := Heap.lt_size hob
        have h3 : A.in1.in1.in1.handled = none := by simp [hh]
        have ne : l ≠ (s.heap.push { cls := .type "set", dict := none, data := .set #[] 0 (.fresh 0 0 led) }).objs.size := by rw [Heap.size_push]; exact Nat.ne_of_lt (Nat.lt_succ_of_lt lS)
        have nS : s.heap.objs.size ∉ [(s.heap.push { cls := .type "set", dict := none, data := .set #[] 0 (.fresh 0 0 led) }).objs.size, l] := by
          rw [Heap.size_push]
          simp only [List.mem_cons, List.mem_singleton, List.not_mem_nil, or_false, not_or]
          exact ⟨Nat.ne_of_lt (Nat.lt_succ_self _), Nat.ne_of_gt lS⟩
        have val : ∀ (i : Nat) (v : Value), vs[i]? = some v → ∃ t, v = .str (xs.getD i Str.empty) t := fun i v hv => SS.strs_at hx i v (by rw [Array.getElem?_toList]; exact hv)
        refine set_loop ((Walks.list h3 _ l ne vs).toS) s.heap.objs.size nS xs sz (by omega) val (vs.size - 0) 0 _ (by omega) (Nat.zero_le _) ⟨⟨_, Heap.get?_push_size _ rfl, rfl, rfl⟩, ?tup⟩ ?z0 ?z1
        case tup => exact hl1.at fun o e => Heap.get?_push_of_some _ e
        case z0 =>
          have g0 : ((s.heap.push { cls := .type "set", dict := none, data := .set #[] 0 (.fresh 0 0 led) }).push { cls := .type "list_iterator", data := .fields #[.ref l, .int 0 0] }).get? s.heap.objs.size = some { cls := .type "set", dict := none, data := .set #[] 0 (.fresh 0 0 led) } := Heap.get?_push_of_some _ gS
          exact SetOf_congr ((setObjOf_fresh (knd := PySem.strKind prog w) led).setOf g0 (by unfold scanBound; omega)) (fun _ => rfl) rfl
        case z1 =>
          intro b hm so
          obtain ⟨g, ge, dr, tk, os⟩ := b
          have e1 : ge = s.gens := hm.gens
          have e2 : dr = s.drawn := hm.drawn
          have e3 : os = s.os := hm.os
          subst e1; subst e2; subst e3
          show wpAny _ _ _ _ _ _
          refine wpAny_pure ?_
          show wpAny _ _ (ret Value.none) _ _ _
          refine wpAny_pure ⟨rfl, g, tk, rfl, so, fun c o hc e => ?_⟩
          have c2 : c ≠ (s.heap.push { cls := .type "set", dict := none, data := .set #[] 0 (.fresh 0 0 led) }).objs.size := by rw [Heap.size_push]; exact Nat.ne_of_lt (Nat.lt_succ_of_lt hc)
          exact hm.heap c o (by simp only [List.mem_cons, List.mem_singleton, List.not_mem_nil, or_false, not_or]; exact ⟨Nat.ne_of_lt hc, c2⟩) (Heap.get?_push_of_some _ (Heap.get?_push_of_some _ e))
      · cases r2 with
        | error e => exact hr2
        | ok f2 =>
          cases f2 with
          | ret r =>
            obtain ⟨rfl, g, tk, rfl, so, kp⟩ := hr2
            rw [ex] at so
            repeat (any_goals (first | assumption | wp_step))
            exact q _ _ so kp
          | _ => exact hr2.elim
    | _ => exact hr.elim
set_option maxHeartbeats 8000000 in
theorem set_of_tuple {l : Addr} {vs : Array Value} {xs : List Str} {Q : Value → Shared → Prop} (hh : A.handled = none) (hl : s.heap.IsTuple l vs) (hx : StrsAre vs.toList xs) (hb : xs.length + 1 < scanBound)
    (q : ∀ (g : Heap) (tk : Nat), g.SetOf (PySem.strKind prog w) s.heap.objs.size (fun z => (ddS xs).any (· == z)) (ddS xs).length → (∀ b o, b < s.heap.objs.size → s.heap.get? b = some o → g.get? b = some o) → Q (.ref s.heap.objs.size) { s with heap := g, toks := tk }) :
    wpAny (model prog w) A (call (.type "set") [.ref l]) Q E s := by
  obtain ⟨mc, mt, hm⟩ := PySem.F.called_set.mro
  have k1 := PySem.F.called_set.made
  have k2 := PySem.F.called_set.sub
  have sz : xs.length = vs.size := by rw [← StrsAre.len_eq hx, Array.length_toList]
  have ex : xs.take vs.size = xs := by rw [← sz, List.take_length]
  refine wpAny_call (codeAny_of_tree ?_)
  show wpAny _ _ (callAny (.type "set") _) _ _ _
  refine wpAny_pure ⟨Code.quiet_builtin _ (by decide +kernel), codeAny_builtin PySem.F.entry_type_call ?_⟩
  rw [Around.under_plain (weight_type_call_type "set" [.ref l] []) rfl]
  have k3 := PySem.F.called_set.notType
  have k4 := PySem.F.called_set.canCreate
  have k5 := PySem.F.typeCall_set_1 (.ref l)
  repeat (any_goals (first | assumption | wp_step))
  refine codeAny_mono (code_set_new_1 (.ref l) (E := E) (Q₁ := fun ob a => ∃ led : Bool, ob = .ref s.heap.objs.size ∧ a = { s with heap := s.heap.push { cls := .type "set", dict := none, data := .set #[] 0 (.fresh 0 0 led) } }) fun led => ⟨led, rfl, rfl⟩) fun r a hr => ?_
  cases r with
  | error e => exact hr
  | ok fl =>
    cases fl with
    | ret ob =>
      obtain ⟨led, rfl, rfl⟩ := hr
      have gS : (s.heap.push { cls := .type "set", dict := none, data := .set #[] 0 (.fresh 0 0 led) }).get? s.heap.objs.size = some { cls := .type "set", dict := none, data := .set #[] 0 (.fresh 0 0 led) } := Heap.get?_push_size _ rfl
      have tS : Shared.TypeIs { s with heap := s.heap.push { cls := .type "set", dict := none, data := .set #[] 0 (.fresh 0 0 led) } } (.ref s.heap.objs.size) "set" := ⟨_, gS, rfl⟩
      have k6 := PySem.F.called_set.init.lookup
      have k7 := PySem.F.called_set.init.bind (.ref s.heap.objs.size)
      repeat (any_goals (first | assumption | wp_step))
      refine codeAny_mono (codeAny_call_builtin (R := wants (fun r b => r = .none ∧ ∃ g tk, b = { s with heap := g, toks := tk } ∧ g.SetOf (PySem.strKind prog w) s.heap.objs.size (fun z => (ddS (xs.take vs.size)).any (· == z)) (ddS (xs.take vs.size)).length ∧
          (∀ b o, b < s.heap.objs.size → s.heap.get? b = some o → g.get? b = some o)) E) PySem.F.called_set.init.plain PySem.F.entry_set_init (check_set_init_1 tS ?_)) fun r2 a2 hr2 => ?_
      · obtain ⟨ob, hob, hcl, nl, hdl⟩ := hl
        obtain ⟨oc, od, oda, osl⟩ := ob
        simp only at hcl hdl
        subst hcl; subst hdl
        have hob' : (s.heap.push { cls := .type "set", dict := none, data := .set #[] 0 (.fresh 0 0 led) }).get? l = some { cls := .type "tuple", dict := od, data := .seq vs nl, slots := osl } := Heap.get?_push_of_some _ hob
        have k8 := PySem.F.sub_tuple_set
        have k9 := PySem.F.sub_tuple_frozenset
        have k0 : (Value.type "tuple" == Value.type "dict") = false := by decide
        have hl1 : (s.heap.push { cls := .type "set", dict := none, data := .set #[] 0 (.fresh 0 0 led) }).IsTuple l vs := ⟨_, hob', rfl, nl, rfl⟩
        unfold Builtin.«set.__init__» noKeywords Builtin.Frozenset.updateFrom
        generalize ePI : pyIter = PI
        wp_walk
        subst ePI
        refine wpAny_pyIter_tuple hl1 ?_
        refine wpAny_bind (wpAny_runValue ?_)
        have lS : l < s.heap.objs.size := Heap.lt_size hob
        have h3 : A.in1.in1.in1.handled = none := by simp [hh]
        have ne : l ≠ (s.heap.push { cls := .type "set", dict := none, data := .set #[] 0 (.fresh 0 0 led) }).objs.size := by rw [Heap.size_push]; exact Nat.ne_of_lt (Nat.lt_succ_of_lt lS)
        have nS : s.heap.objs.size ∉ [(s.heap.push { cls := .type "set", dict := none, data := .set #[] 0 (.fresh 0 0 led) }).objs.size, l] := by
          rw [Heap.size_push]
          simp only [List.mem_cons, List.mem_singleton, List.not_mem_nil, or_false, not_or]
          exact ⟨Nat.ne_of_lt (Nat.lt_succ_self _), Nat.ne_of_gt lS⟩
        have val : ∀ (i : Nat) (v : Value), vs[i]? = some v → ∃ t, v = .str (xs.getD i Str.empty) t := fun i v hv => SS.strs_at hx i v (by rw [Array.getElem?_toList]; exact hv)
        refine set_loop ((Walks.tuple h3 _ l ne vs).toS) s.heap.objs.size nS xs sz (by omega) val (vs.size - 0) 0 _ (by omega) (Nat.zero_le _) ⟨⟨_, Heap.get?_push_size _ rfl, rfl, rfl⟩, ?tup⟩ ?z0 ?z1
        case tup => exact hl1.at fun o e => Heap.get?_push_of_some _ e
        case z0 =>
          have g0 : ((s.heap.push { cls := .type "set", dict := none, data := .set #[] 0 (.fresh 0 0 led) }).push { cls := .type "tuple_iterator", data := .fields #[.ref l, .int 0 0] }).get? s.heap.objs.size = some { cls := .type "set", dict := none, data := .set #[] 0 (.fresh 0 0 led) } := Heap.get?_push_of_some _ gS
          exact SetOf_congr ((setObjOf_fresh (knd := PySem.strKind prog w) led).setOf g0 (by unfold scanBound; omega)) (fun _ => rfl) rfl
        case z1 =>
          intro b hm so
          obtain ⟨g, ge, dr, tk, os⟩ := b
          have e1 : ge = s.gens := hm.gens
          have e2 : dr = s.drawn := hm.drawn
          have e3 : os = s.os := hm.os
          subst e1; subst e2; subst e3
          show wpAny _ _ _ _ _ _
          refine wpAny_pure ?_
          show wpAny _ _ (ret Value.none) _ _ _
          refine wpAny_pure ⟨rfl, g, tk, rfl, so, fun c o hc e => ?_⟩
          have c2 : c ≠ (s.heap.push { cls := .type "set", dict := none, data := .set #[] 0 (.fresh 0 0 led) }).objs.size := by rw [Heap.size_push]; exact Nat.ne_of_lt (Nat.lt_succ_of_lt hc)
          exact hm.heap c o (by simp only [List.mem_cons, List.mem_singleton, List.not_mem_nil, or_false, not_or]; exact ⟨Nat.ne_of_lt hc, c2⟩) (Heap.get?_push_of_some _ (Heap.get?_push_of_some _ e))
      · cases r2 with
        | error e => exact hr2
        | ok f2 =>
          cases f2 with
          | ret r =>
            obtain ⟨rfl, g, tk, rfl, so, kp⟩ := hr2
            rw [ex] at so
            repeat (any_goals (first | assumption | wp_step))
            exact q _ _ so kp
          | _ => exact hr2.elim
    | _ => exact hr.elim
end
end Mi
end
section
namespace Mi
open PySem
abbrev D := PyData
inductive Slot where
  | emp
  | shr (d : D)
  | own (d : D)
abbrev Env := List Slot
abbrev Rs := Bool × D
structure Exn where
  cls : Str
  fld : Option D
inductive Out (α : Type) where
  | ok (a : α) (ρ : Env)
  | exc (x : Exn) (ρ : Env)
  | bad
def Out.bind {α β : Type} : Out α → (α → Env → Out β) → Out β
  | .ok a ρ, f => f a ρ
  | .exc x ρ, _ => .exc x ρ
  | .bad, _ => .bad
inductive Tg where
  | nm (i : Nat)
  | tp (is : List Nat)
inductive B1 where
  | len | all | any | sum | max | min | sorted | tuple | list | dict | int | lenset | sortset | vals | keys
inductive B2 where
  | max | min | get1 | join | index | count
  deriving DecidableEq
inductive Ty where
  | str | tuple | list | int | bool | dict
inductive CE where
  | cst (d : D)
  | var (i : Nat)
  | tup (es : List CE)
  | lst (es : List CE)
  | bin (op : Operator) (a b : CE)
  | neg (a : CE)
  | cmp (op : CmpOp) (a b : CE)
  | chn (op op' : CmpOp) (a b c : CE)
  | isin (ng : Bool) (a b : CE)
  | wr (ds : List D)
  | isn (ng : Bool) (a : CE)
  | not (a : CE)
  | and (a b : CE)
  | or (a b : CE)
  | ite (c a b : CE)
  | idx (a b : CE)
  | sl0 (a : CE)
  | sl1 (a lo : CE)
  | sl2 (a hi : CE)
  | sl3 (a lo hi : CE)
  | rev (a : CE)
  | b1 (f : B1) (a : CE)
  | b2 (f : B2) (a b : CE)
  | get (a b c : CE)
  | isi (a : CE) (T : Ty)
  | call (f : Str) (es : List CE)
  | pop (i : Nat)
  | popAt (i : Nat) (a : CE)
  | lrng (a : CE)
  | rng1 (a : CE)
  | rng2 (a b : CE)
  | rng3 (a b c : CE)
  | enm (a : CE)
  | zp (a b : CE)
  | itm (a : CE)
  | lc (own : List Nat) (elt : CE) (tg : Tg) (it : CE)
  | lcf (own : List Nat) (elt : CE) (tg : Tg) (it cond : CE)
  | lc2 (own own2 : List Nat) (elt : CE) (tg : Tg) (it : CE) (tg2 : Tg) (it2 : CE)
  | dc (own : List Nat) (k v : CE) (tg : Tg) (it : CE)
  | dc2 (own own2 : List Nat) (k v : CE) (tg : Tg) (it : CE) (tg2 : Tg) (it2 : CE)
  | dsp (ks vs : List CE)
  | star
inductive CS where
  | exp (c : CE)
  | asg (i : Nat) (c : CE)
  | asgT (is : List Nat) (c : CE)
  | sub (i : Nat) (k v : CE)
  | aug (op : Operator) (i : Nat) (c : CE)
  | app (i : Nat) (c : CE)
  | ret (c : CE)
  | retN
  | ite (c : CE) (t e : List CS)
  | for (tg : Tg) (it : CE) (body : List CS)
  | whl (c : CE) (body : List CS)
  | brk
  | pas
  | rais (cls : Str) (args : List CE)
  | try (body : List CS) (cls : Str) (nm : Option Nat) (h : List CS)
inductive Fl where
  | nx (ρ : Env)
  | rt (r : Rs) (ρ : Env)
  | bk (ρ : Env)
  | exc (x : Exn) (ρ : Env)
  | bad
inductive CRes where
  | ret (r : Rs) (outs : List Slot)
  | exc (x : Exn)
  | bad
structure Cf where
  call : Str → List Slot → CRes
  sig : Str → List Nat
  mu : List Nat
  fx : List Nat
  fuel : Nat
def isC : D → Bool
  | .list _ | .dict _ => true
  | _ => false
def mk (fl : Bool) (d : D) : Slot := if (fl && isC d) = true then .own d else .shr d
def tru : D → Option Bool
  | .bool b => some b
  | _ => none
def mulOk (i j : Int) : Bool := decide (i.natAbs.log2 + j.natAbs.log2 < 1000000)
def divOk (j : Int) : Bool := decide (0 < j) && decide (j.natAbs.log2 < 9000)
def repL {α : Type} (n : Nat) (xs : List α) : List α := (List.replicate n xs).flatten
def binOp : Operator → D → D → Option Rs
  | .Add, .int i, .int j => some (false, .int (i + j))
  | .Add, .str x, .str y => if x.length + y.length ≤ sizeLine then some (false, .str (x ++ y)) else none
  | .Add, .tuple xs, .tuple ys => if xs.length + ys.length ≤ sizeLine then some (false, .tuple (xs ++ ys)) else none
  | .Add, .list xs, .list ys => if xs.length + ys.length ≤ sizeLine then some (true, .list (xs ++ ys)) else none
  | .Sub, .int i, .int j => some (false, .int (i - j))
  | .Mult, .int i, .int j => if mulOk i j = true then some (false, .int (i * j)) else none
  | .Mult, .tuple xs, .int k => if 0 ≤ k ∧ k ≤ 1000 ∧ xs.length ≤ 1000 then some (false, .tuple (repL k.toNat xs)) else none
  | .Mult, .list xs, .int k => if 0 ≤ k ∧ k ≤ 1000 ∧ xs.length ≤ 1000 then some (true, .list (repL k.toNat xs)) else none
  | .Mod, .int i, .int j => if 0 < j then some (false, .int (i % j)) else none
  | .FloorDiv, .int i, .int j => if divOk j = true then some (false, .int (i / j)) else none
  | .Pow, .int i, .int j => if 0 ≤ j ∧ j ≤ 1000000 ∧ i.natAbs < 2 ^ 64 then some (false, .int (i ^ j.toNat)) else none
  | _, _, _ => none
def eqOk (a b : D) : Bool := a.plain && b.plain && decide (min a.depth b.depth ≤ 64)
def strLt (x y : Str) : Bool := decide (x.cps.toList < y.cps.toList)
def isTup : D → Bool
  | .tuple _ => true
  | _ => false
def ltD : D → D → Option Bool
  | .int i, .int j => some (decide (i < j))
  | .str x, .str y => some (strLt x y)
  | .tuple xs, .tuple ys => if (eqOk (.tuple xs) (.tuple ys) && PySem.W.alike (.tuple xs) (.tuple ys)) = true then some (PySem.W.dataLt (.tuple xs) (.tuple ys)) else none
  | _, _ => none
def inD (x : D) (zs : List D) : Option Bool := if (eqOk x (.list zs)) = true then some (zs.any fun z => PyData.eqv z x) else none
def flatK : D → Bool
  | .int _ | .str _ => true
  | _ => false
def keyOk : D → Bool
  | .int _ | .str _ => true
  | .tuple xs => xs.all flatK
  | _ => false
def sameKind : D → D → Bool
  | .tuple _, .tuple _ => true
  | .tuple _, _ => false
  | _, .tuple _ => false
  | _, _ => true
def flatEq : D → D → Bool
  | .int i, .int j => i == j
  | .str x, .str y => x == y
  | _, _ => false
def flatEqs : List D → List D → Bool
  | [], [] => true
  | x :: xs, y :: ys => flatEq x y && flatEqs xs ys
  | _, _ => false
def keyEq : D → D → Bool
  | .tuple xs, .tuple ys => flatEqs xs ys
  | x, y => flatEq x y
def dOk (kvs : List (D × D)) : Bool := kvs.all fun p => keyOk p.1
def fitsK (kvs : List (D × D)) (k : D) : Bool := keyOk k && dOk kvs && kvs.all fun p => sameKind p.1 k
def scrD (xs : List D) : D := .dict [(.none, .list xs)]
def getK (kvs : List (D × D)) (k : D) : Option D := (kvs.find? fun p => keyEq p.1 k).map (·.2)
def putD (kvs : List (D × D)) (k v : D) : List (D × D) :=
  if (kvs.any fun p => keyEq p.1 k) = true then kvs.map (fun p => if keyEq p.1 k = true then (p.1, v) else p) else kvs ++ [(k, v)]
def cmpOp : CmpOp → D → D → Option Bool
  | .Eq, a, b => if eqOk a b = true then some (PyData.eqv a b) else none
  | .NotEq, a, b => if eqOk a b = true then some (!PyData.eqv a b) else none
  | .Lt, a, b => ltD a b
  | .Gt, .int i, .int j => some (decide (j < i))
  | .LtE, .int i, .int j => some (decide (i ≤ j))
  | .GtE, .int i, .int j => some (decide (j ≤ i))
  | _, _, _ => none
def inOp : D → D → Option Bool
  | x, .tuple ys => inD x ys
  | x, .list ys => inD x ys
  | .str x, .str y => if x.length = 1 then some (decide (x.cps.getD 0 0 ∈ y.cps.toList)) else none
  | x, .dict kvs => if fitsK kvs x = true then some (getK kvs x).isSome else none
  | _, _ => none
def idxOp : D → D → Option D
  | .list xs, .int i => L2.atI xs i
  | .tuple xs, .int i => L2.atI xs i
  | .str z, .int i => if z.length ≤ sizeLine then (L2.atI z.cps.toList i).map fun c => .str ⟨#[c]⟩ else none
  | .dict [(.none, .list xs)], .int i => L2.atI xs i
  | .dict kvs, k => if fitsK kvs k = true then getK kvs k else none
  | _, _ => none
def cutD {α : Type} (xs : List α) (lo hi : Option Int) : List α := (xs.drop (HT.sIx xs.length 0 lo)).take (HT.sIx xs.length xs.length hi - HT.sIx xs.length 0 lo)
def slcOp (d : D) (lo hi : Option Int) : Option Rs :=
  match d with
  | .list xs => some (true, .list (cutD xs lo hi))
  | .tuple xs => some (false, .tuple (cutD xs lo hi))
  | .str z => if z.length ≤ sizeLine then some (false, .str (L2.cutS z lo hi)) else none
  | _ => none
def asInt : D → Option Int
  | .int i => some i
  | _ => none
def boolsD : List D → Option (List Bool)
  | [] => some []
  | .bool b :: r => (boolsD r).map (b :: ·)
  | _ => none
def intsD : List D → Option (List Int)
  | [] => some []
  | .int b :: r => (intsD r).map (b :: ·)
  | _ => none
def strsD : List D → Option (List Str)
  | [] => some []
  | .str b :: r => (strsD r).map (b :: ·)
  | _ => none
def items : D → Option (List D)
  | .list xs => some xs
  | .tuple xs => some xs
  | .dict kvs => if dOk kvs = true then some (kvs.map (·.1)) else none
  | .str z => some (z.cps.toList.map fun c => .str ⟨#[c]⟩)
  | _ => none
def scrOf : List (D × D) → Option (List D)
  | [(.none, .list xs)] => some xs
  | _ => none
def itemsW : D → Option (List D)
  | .list xs => some xs
  | .tuple xs => some xs
  | .dict kvs => scrOf kvs
  | .str z => some (z.cps.toList.map fun c => .str ⟨#[c]⟩)
  | _ => none
def sortD (xs : List D) : List D := xs.mergeSort (PySem.W.dataLe false fun x => x)
def isTup1 : D → Bool
  | .tuple (_ :: _) => true
  | _ => false
def noTup : D → Bool
  | .tuple _ => false
  | .none => false
  | _ => true
def sortable (xs : List D) : Bool := (xs.all fun x => x.plain && decide (x.depth ≤ 64) && xs.all fun y => PySem.W.alike x y) && (xs.all isTup1 || xs.all noTup)
def dedupK : List D → List D
  | [] => []
  | x :: r => x :: (dedupK r).filter (fun y => !PyData.eqv y x)
def lenD : D → Option Nat
  | .list xs => some xs.length
  | .tuple xs => some xs.length
  | .str z => if z.length ≤ sizeLine then some z.length else none
  | .dict kvs => match scrOf kvs with
    | some xs => some xs.length
    | none => if dOk kvs = true then some kvs.length else none
  | _ => none
def listOf : D → Option (List D)
  | .list xs => some xs
  | _ => none
def dictOf : D → Option (List (D × D))
  | .dict kvs => if dOk kvs = true then some kvs else none
  | _ => none
def maxL : List Int → Option Int
  | [] => none
  | n :: r => some (r.foldl (fun a b => if a < b then b else a) n)
def minL : List Int → Option Int
  | [] => none
  | n :: r => some (r.foldl (fun a b => if b < a then b else a) n)
def tupleD : D → Option D
  | .tuple xs => some (.tuple xs)
  | .list xs => some (.tuple xs)
  | _ => none
def listD : D → Option D
  | .list xs => some (.list xs)
  | .tuple xs => some (.list xs)
  | .dict kvs => if dOk kvs = true then some (.list (kvs.map (·.1))) else none
  | _ => none
def intD : D → Option D
  | .int i => some (.int i)
  | .bool b => some (.int (if b then 1 else 0))
  | _ => none
def pairOf : D → Option (D × D)
  | .tuple [k, v] => some (k, v)
  | _ => none
def pairsOf : List D → Option (List (D × D))
  | [] => some []
  | x :: r => (pairOf x).bind fun p => (pairsOf r).map (p :: ·)
def mergeD (acc : List (D × D)) (more : List (D × D)) : List (D × D) := more.foldl (fun a p => putD a p.1 p.2) acc
def dictD : D → Option D
  | .dict kvs => if (kvs.all fun p => flatK p.1) = true then some (.dict kvs) else none
  | .list xs => (pairsOf xs).bind fun ps => if (ps.all fun p => flatK p.1) = true then some (.dict (mergeD [] ps)) else none
  | _ => none
def strsOf : D → Option (List Str)
  | .list xs => strsD xs
  | .tuple xs => strsD xs
  | _ => none
def lensetD (d : D) : Option Nat := (strsOf d).bind fun xs => if xs.length ≤ 4000 then some (ddS xs).length else none
def b1Op (f : B1) (d : D) : Option Rs :=
  match f with
  | .len => (lenD d).map fun (n : Nat) => (false, .int (n : Int))
  | .all => (listOf d).bind fun xs => (boolsD xs).map fun bs => (false, .bool (bs.all id))
  | .any => (listOf d).bind fun xs => (boolsD xs).map fun bs => (false, .bool (bs.any id))
  | .sum => (listOf d).bind fun xs => (intsD xs).map fun ns => (false, .int ns.sum)
  | .max => (listOf d).bind fun xs => (intsD xs).bind fun ns => (maxL ns).map fun n => (false, .int n)
  | .min => (listOf d).bind fun xs => (intsD xs).bind fun ns => (minL ns).map fun n => (false, .int n)
  | .sorted => (listOf d).bind fun xs => if sortable xs = true then some (true, .list (sortD xs)) else none
  | .tuple => (tupleD d).map fun t => (false, t)
  | .list => (listD d).map fun t => (true, t)
  | .dict => (dictD d).map fun t => (true, t)
  | .int => (intD d).map fun t => (false, t)
  | .lenset => (lensetD d).map fun (n : Nat) => (false, .int (n : Int))
  | .vals => (dictOf d).map fun kvs => (true, .list (kvs.map (·.2)))
  | _ => none
def b2Op : B2 → D → D → Option Rs
  | .max, .int i, .int j => some (false, .int (if j > i then j else i))
  | .min, .int i, .int j => some (false, .int (if j < i then j else i))
  | _, _, _ => none
def isiOk : D → Bool
  | .dict kvs => dOk kvs
  | _ => true
def tyOf : D → Ty → Bool
  | .str _, .str => true
  | .tuple _, .tuple => true
  | .list _, .list => true
  | .int _, .int => true
  | .bool _, .bool => true
  | .bool _, .int => true
  | .dict _, .dict => true
  | _, _ => false
inductive Opd where
  | val (d : D)
  | wr (ds : List D)
  | at (i : Nat)
def slotD : Slot → Option D
  | .emp => none
  | .shr d => some d
  | .own d => some d
def res (ρ : Env) : Opd → Option D
  | .val d => some d
  | .wr _ => none
  | .at i => (ρ[i]?).bind slotD
def resW (ρ : Env) : Opd → Option D
  | .wr ds => some (.tuple ds)
  | o => res ρ o
def opd (c : CE) (ev : Env → Out Rs) (ρ : Env) : Out Opd :=
  match c with
  | .wr ds => .ok (.wr ds) ρ
  | .var i => match ρ[i]? with
    | some (.own _) => .ok (.at i) ρ
    | some (.shr d) => .ok (.val d) ρ
    | _ => .bad
  | _ => (ev ρ).bind fun r ρ' => .ok (.val r.2) ρ'
def lift {α : Type} (o : Option α) (ρ : Env) : Out α := match o with
  | some r => .ok r ρ
  | none => .bad
def setT : Tg → D → Env → Option Env
  | .nm i, d, ρ => some (ρ.set i (.shr d))
  | .tp is, .tuple ds, ρ => if is.length = ds.length then some ((is.zip ds).foldl (fun r p => r.set p.1 (.shr p.2)) ρ) else none
  | _, _, _ => none
def wipeE (ρ : Env) : List Nat → Env
  | [] => ρ
  | i :: r => (wipeE ρ r).set i .emp
def backE (ρ₀ ρ : Env) : List Nat → Env
  | [] => ρ
  | i :: r => match ρ₀[i]? with
    | some s => (backE ρ₀ ρ r).set i s
    | none => backE ρ₀ ρ r
def turns {α : Type} (tg : Tg) (vs : List Nat) (f : Env → Out (List α)) : List D → Env → Out (List α)
  | [], ρ => .ok [] ρ
  | x :: r, ρ => match setT tg x (wipeE ρ vs) with
    | none => .bad
    | some ρ1 => match f ρ1 with
      | .ok ys ρ2 => match turns tg vs f r ρ2 with
        | .ok zs ρ3 => .ok (ys ++ zs) ρ3
        | _ => .bad
      | _ => .bad
def forL (tg : Tg) (body : Env → Fl) : List D → Env → Fl
  | [], ρ => .nx ρ
  | x :: r, ρ => match setT tg x ρ with
    | none => .bad
    | some ρ1 => match body ρ1 with
      | .nx ρ2 => forL tg body r ρ2
      | .bk ρ2 => .nx ρ2
      | f => f
def whlL (c : Env → Out Bool) (body : Env → Fl) : Nat → Env → Fl
  | 0, _ => .bad
  | n + 1, ρ => match c ρ with
    | .ok false ρ1 => .nx ρ1
    | .ok true ρ1 => match body ρ1 with
      | .nx ρ2 => whlL c body n ρ2
      | .bk ρ2 => .nx ρ2
      | f => f
    | .exc x ρ1 => .exc x ρ1
    | .bad => .bad
def rngD (lo : Int) (n : Nat) : List D := (List.range n).map fun (i : Nat) => .int (lo + (i : Int))
def rngDn (lo : Int) (n : Nat) : List D := (List.range n).map fun (i : Nat) => .int (lo - (i : Int))
def rngOk (i : Int) : Bool := decide (-(2 ^ 62) ≤ i) && decide (i < 2 ^ 62)
inductive ArgV where
  | ref (i : Nat)
  | val (s : Slot)
def argRefs : List ArgV → List Nat
  | [] => []
  | .ref i :: r => i :: argRefs r
  | .val _ :: r => argRefs r
def argSlots (ρ : Env) : List ArgV → Option (List Slot)
  | [] => some []
  | .ref i :: r => match ρ[i]? with
    | some (.own d) => (argSlots ρ r).map (.own d :: ·)
    | _ => none
  | .val s :: r => (argSlots ρ r).map (s :: ·)
def putOuts : List ArgV → List Slot → Env → Env
  | .ref i :: r, s :: ss, ρ => putOuts r ss (ρ.set i s)
  | .val _ :: r, _ :: ss, ρ => putOuts r ss ρ
  | _, _, ρ => ρ
def emps (ss : List Slot) : List Slot := ss.map fun _ => .emp
def callV (cf : Cf) (f : Str) (as : List ArgV) (ρ : Env) : Out Rs :=
  match argSlots ρ as with
  | none => .bad
  | some ss => if (argRefs as).Nodup then
      match cf.call f ss with
      | .ret r outs => .ok r (putOuts as outs ρ)
      | .exc x => .exc x (putOuts as (emps ss) ρ)
      | .bad => .bad
    else .bad
def arg1 (mu : Bool) (c : CE) (ev : Env → Out Rs) (ρ : Env) : Out ArgV :=
  if mu = true then
    match c with
    | .var i => match ρ[i]? with
      | some (.own _) => .ok (.ref i) ρ
      | some (.shr d) => .ok (.val (.shr d)) ρ
      | _ => .bad
    | _ => (ev ρ).bind fun r ρ' => .ok (.val (mk r.1 r.2)) ρ'
  else (ev ρ).bind fun r ρ' => .ok (.val (.shr r.2)) ρ'
def walkV (c : CE) (ev : Env → Out Rs) (ρ : Env) : Out (List D × Option Nat) :=
  (opd c ev ρ).bind fun o ρ1 => match o with
    | .val d => lift ((itemsW d).map fun xs => (xs, none)) ρ1
    | .wr _ => .bad
    | .at i => match ρ1[i]? with
      | some (.own (.list xs)) => .ok (xs, some i) ρ1
      | _ => .bad
def noStr : D → Bool
  | .str _ => false
  | _ => true
def walkE (c : CE) (ev : Env → Out Rs) (ρ : Env) : Out (List D × Option Nat) :=
  (opd c ev ρ).bind fun o ρ1 => match o with
    | .val d => if noStr d = true then lift ((itemsW d).map fun xs => (xs.mapIdx fun i x => .tuple [.int i, x], none)) ρ1 else .bad
    | .wr _ => .bad
    | .at i => match ρ1[i]? with
      | some (.own (.list xs)) => .ok (xs.mapIdx fun i x => .tuple [.int i, x], some i) ρ1
      | _ => .bad
def lockE (ρ : Env) : Option Nat → Env
  | none => ρ
  | some i => ρ.set i .emp
def lockL : Option Nat → List Nat
  | none => []
  | some i => [i]
def blkV {α : Type} (vs : List Nat) (tg : Tg) (f : Env → Out (List α)) (xl : List D × Option Nat) (ρ : Env) : Out (List α) :=
  match turns tg vs f xl.1 (lockE ρ xl.2) with
  | .ok ys ρ2 => .ok ys (backE ρ ρ2 (vs ++ lockL xl.2))
  | _ => .bad
def dictF (ps : List (D × D)) : Option Rs := if (ps.all fun p => flatK p.1) = true then some (true, .dict (mergeD [] ps)) else none
def zipD : List D → List D → List D
  | x :: r, y :: s => .tuple [x, y] :: zipD r s
  | _, _ => []
def pairsD (kvs : List (D × D)) : List D := kvs.map fun p => .tuple [p.1, p.2]
mutual
def evE (cf : Cf) : CE → Env → Out Rs
  | .cst d, ρ => .ok (false, d) ρ
  | .var i, ρ => match ρ[i]? with
    | some (.shr d) => .ok (false, d) ρ
    | some (.own d) => .ok (false, d) (ρ.set i (.shr d))
    | _ => .bad
  | .tup es, ρ => (evL cf es ρ).bind fun ds ρ' => if ds.length ≤ sizeLine then .ok (false, .tuple ds) ρ' else .bad
  | .lst es, ρ => (evL cf es ρ).bind fun ds ρ' => if ds.length ≤ sizeLine then .ok (true, .list ds) ρ' else .bad
  | .bin op a b, ρ => (opd a (evE cf a) ρ).bind fun x ρ1 => (opd b (evE cf b) ρ1).bind fun y ρ2 => lift ((res ρ2 x).bind fun x => (res ρ2 y).bind fun y => binOp op x y) ρ2
  | .neg a, ρ => (evE cf a ρ).bind fun x ρ1 => lift ((asInt x.2).map fun i => (false, PyData.int (-i))) ρ1
  | .cmp op a b, ρ => (opd a (evE cf a) ρ).bind fun x ρ1 => (opd b (evE cf b) ρ1).bind fun y ρ2 => lift ((res ρ2 x).bind fun x => (res ρ2 y).bind fun y => (cmpOp op x y).map fun b => (false, PyData.bool b)) ρ2
  | .chn op op' a b c, ρ => (evE cf a ρ).bind fun x ρ1 => (evE cf b ρ1).bind fun y ρ2 => (lift (cmpOp op x.2 y.2) ρ2).bind fun t ρ2 =>
      if t = true then (evE cf c ρ2).bind fun z ρ3 => lift ((cmpOp op' y.2 z.2).map fun b => (false, PyData.bool b)) ρ3 else .ok (false, .bool false) ρ2
  | .isin ng a b, ρ => (evE cf a ρ).bind fun x ρ1 => (opd b (evE cf b) ρ1).bind fun y ρ2 => lift ((resW ρ2 y).bind fun y => (inOp x.2 y).map fun b => (false, PyData.bool (if ng = true then !b else b))) ρ2
  | .isn ng a, ρ => (opd a (evE cf a) ρ).bind fun x ρ1 => lift ((res ρ1 x).map fun d => (false, PyData.bool (match d with | .none => !ng | _ => ng))) ρ1
  | .not a, ρ => (evE cf a ρ).bind fun x ρ1 => lift ((tru x.2).map fun b => (false, PyData.bool !b)) ρ1
  | .and a b, ρ => (evE cf a ρ).bind fun x ρ1 => (lift (tru x.2) ρ1).bind fun t ρ1 => if t = true then (evE cf b ρ1).bind fun y ρ2 => (lift (tru y.2) ρ2).bind fun u ρ2 => .ok (false, .bool u) ρ2 else .ok (false, .bool false) ρ1
  | .or a b, ρ => (evE cf a ρ).bind fun x ρ1 => (lift (tru x.2) ρ1).bind fun t ρ1 => if t = true then .ok (false, .bool true) ρ1 else (evE cf b ρ1).bind fun y ρ2 => (lift (tru y.2) ρ2).bind fun u ρ2 => .ok (false, .bool u) ρ2
  | .ite c a b, ρ => (evE cf c ρ).bind fun x ρ1 => (lift (tru x.2) ρ1).bind fun t ρ1 => if t = true then evE cf a ρ1 else evE cf b ρ1
  | .idx a b, ρ => (opd a (evE cf a) ρ).bind fun x ρ1 => (evE cf b ρ1).bind fun y ρ2 => lift ((res ρ2 x).bind fun x => (idxOp x y.2).map fun d => (false, d)) ρ2
  | .sl0 a, ρ => (opd a (evE cf a) ρ).bind fun x ρ1 => lift ((res ρ1 x).bind fun x => slcOp x none none) ρ1
  | .sl1 a b, ρ => (opd a (evE cf a) ρ).bind fun x ρ1 => (evE cf b ρ1).bind fun y ρ2 => lift ((res ρ2 x).bind fun x => (asInt y.2).bind fun i => slcOp x (some i) none) ρ2
  | .sl2 a b, ρ => (opd a (evE cf a) ρ).bind fun x ρ1 => (evE cf b ρ1).bind fun y ρ2 => lift ((res ρ2 x).bind fun x => (asInt y.2).bind fun i => slcOp x none (some i)) ρ2
  | .sl3 a b c, ρ => (opd a (evE cf a) ρ).bind fun x ρ1 => (evE cf b ρ1).bind fun y ρ2 => (lift (asInt y.2) ρ2).bind fun i ρ2 => (evE cf c ρ2).bind fun z ρ3 => lift ((res ρ3 x).bind fun x => (asInt z.2).bind fun j => slcOp x (some i) (some j)) ρ3
  | .rev a, ρ => (opd a (evE cf a) ρ).bind fun x ρ1 => lift ((res ρ1 x).bind fun x => match x with
      | .list xs => some (true, .list xs.reverse)
      | .tuple xs => some (false, .tuple xs.reverse)
      | _ => none) ρ1
  | .b1 f a, ρ => (opd a (evE cf a) ρ).bind fun x ρ1 => lift ((res ρ1 x).bind fun x => b1Op f x) ρ1
  | .b2 f a b, ρ => (evE cf a ρ).bind fun x ρ1 => (evE cf b ρ1).bind fun y ρ2 => lift (b2Op f x.2 y.2) ρ2
  | .get a b c, ρ => (opd a (evE cf a) ρ).bind fun x ρ1 => (evE cf b ρ1).bind fun y ρ2 => (evE cf c ρ2).bind fun z ρ3 => lift ((res ρ3 x).bind fun x => match x with
      | .dict kvs => if fitsK kvs y.2 = true then some (false, (getK kvs y.2).getD z.2) else none
      | _ => none) ρ3
  | .isi a ts, ρ => (opd a (evE cf a) ρ).bind fun x ρ1 => lift ((res ρ1 x).bind fun x => if isiOk x = true then some (false, PyData.bool (tyOf x ts)) else none) ρ1
  | .call f es, ρ => (evA cf (cf.sig f) 0 es ρ).bind fun as ρ' => callV cf f as ρ'
  | .pop i, ρ => match ρ[i]? with
    | some (.own (.list xs)) => match xs[xs.length - 1]? with
      | some y => .ok (false, y) (ρ.set i (.own (.list xs.dropLast)))
      | none => .bad
    | _ => .bad
  | .popAt _ _, _ => .bad
  | .lrng a, ρ => (evE cf a ρ).bind fun x ρ1 => lift ((asInt x.2).bind fun i => if rngOk i = true ∧ i.toNat ≤ sizeLine then some (true, PyData.list (rngD 0 i.toNat)) else none) ρ1
  | .lc vs elt tg it, ρ => (evI cf it ρ).bind fun xl ρ1 => if xl.1.length ≤ sizeLine then
      (blkV vs tg (fun ρ => (evE cf elt ρ).bind fun r ρ' => .ok [r.2] ρ') xl ρ1).bind fun ys ρ2 => .ok (true, .list ys) ρ2 else .bad
  | .lcf vs elt tg it c, ρ => (evI cf it ρ).bind fun xl ρ1 => if xl.1.length ≤ sizeLine then
      (blkV vs tg (fun ρ => (evE cf c ρ).bind fun t ρ' => (lift (tru t.2) ρ').bind fun t ρ' => if t = true then (evE cf elt ρ').bind fun r ρ' => .ok [r.2] ρ' else .ok [] ρ') xl ρ1).bind fun ys ρ2 => .ok (true, .list ys) ρ2 else .bad
  | .lc2 vs vs2 elt tg it tg2 it2, ρ => (evI cf it ρ).bind fun xl ρ1 =>
      (blkV vs tg (fun ρ => (evI cf it2 ρ).bind fun xl2 ρ' => blkV vs2 tg2 (fun ρ => (evE cf elt ρ).bind fun r ρ' => .ok [r.2] ρ') xl2 ρ') xl ρ1).bind fun ys ρ2 => if ys.length ≤ sizeLine then .ok (true, .list ys) ρ2 else .bad
  | .dc vs k v tg it, ρ => (evI cf it ρ).bind fun xl ρ1 => if xl.1.length ≤ sizeLine then
      (blkV vs tg (fun ρ => (evE cf k ρ).bind fun x ρ1 => (evE cf v ρ1).bind fun y ρ2 => .ok [(x.2, y.2)] ρ2) xl ρ1).bind fun ps ρ2 => lift (dictF ps) ρ2 else .bad
  | .dc2 vs vs2 k v tg it tg2 it2, ρ => (evI cf it ρ).bind fun xl ρ1 =>
      (blkV vs tg (fun ρ => (evI cf it2 ρ).bind fun xl2 ρ' => blkV vs2 tg2 (fun ρ => (evE cf k ρ).bind fun x ρ1 => (evE cf v ρ1).bind fun y ρ2 => .ok [(x.2, y.2)] ρ2) xl2 ρ') xl ρ1).bind fun ps ρ2 => if ps.length ≤ sizeLine then lift (dictF ps) ρ2 else .bad
  | _, _ => .bad
def evL (cf : Cf) : List CE → Env → Out (List D)
  | [], ρ => .ok [] ρ
  | e :: es, ρ => (evE cf e ρ).bind fun r ρ1 => (evL cf es ρ1).bind fun ds ρ2 => .ok (r.2 :: ds) ρ2
def evA (cf : Cf) (mu : List Nat) : Nat → List CE → Env → Out (List ArgV)
  | _, [], ρ => .ok [] ρ
  | j, e :: es, ρ => (arg1 (mu.contains j) e (evE cf e) ρ).bind fun a ρ1 => (evA cf mu (j + 1) es ρ1).bind fun as ρ2 => .ok (a :: as) ρ2
def evI (cf : Cf) : CE → Env → Out (List D × Option Nat)
  | .rng1 a, ρ => (evE cf a ρ).bind fun x ρ1 => lift ((asInt x.2).bind fun i => if rngOk i = true then some (rngD 0 i.toNat, none) else none) ρ1
  | .rng2 a b, ρ => (evE cf a ρ).bind fun x ρ1 => (evE cf b ρ1).bind fun y ρ2 => lift ((asInt x.2).bind fun i => (asInt y.2).bind fun j => if rngOk i = true ∧ rngOk j = true then some (rngD i (j - i).toNat, none) else none) ρ2
  | .rng3 a b c, ρ => (evE cf a ρ).bind fun x ρ1 => (evE cf b ρ1).bind fun y ρ2 => (evE cf c ρ2).bind fun z ρ3 => lift ((asInt x.2).bind fun i => (asInt y.2).bind fun j => (asInt z.2).bind fun k => if k = -1 ∧ rngOk i = true ∧ rngOk j = true then some (rngDn i (i - j).toNat, none) else none) ρ3
  | .enm a, ρ => walkE a (evE cf a) ρ
  | .zp a b, ρ => (evE cf a ρ).bind fun x ρ1 => (evE cf b ρ1).bind fun y ρ2 => lift (match x.2, y.2 with
      | .list xs, .list ys => some (zipD xs ys, none)
      | .tuple xs, .tuple ys => some (zipD xs ys, none)
      | _, _ => none) ρ2
  | c, ρ => walkV c (evE cf c) ρ
end
end Mi
end
section
namespace Mi
open PySem PySem.Spec L2
def keyD : Key → D
  | .inl i => .int i
  | .inr s => .str s
def Rl (H : Hp) (a : Addr) (u : HO) : Prop := H a = some u ∨ (((∀ xs, u ≠ .lst xs) ∧ u ≠ .dK [] ∧ u ≠ .dT []) ∧ ∃ o, H a = some (.frz o u))
theorem Rl.rd {H : Hp} {a : Addr} {u : HO} (h : Rl H a u) : Rd H a u := h.imp id fun z => z.2
theorem Rl.lst {H : Hp} {a : Addr} {xs : List V} (h : Rl H a (.lst xs)) : H a = some (.lst xs) := h.elim id fun z => absurd rfl (z.1.1 xs)
def SqF (K : PySem.W.Frag) (H : Hp) (a : Addr) (xs : List V) : Prop :=
  (∃ o, H a = some (.frz o (.lst xs))) ∨ ∃ (ob : Obj) (vs : Array Value) (n : Nat), K.lookup a = some ob ∧ ob.cls = .type "list" ∧ ob.dict = none ∧ ob.data = .seq vs n ∧ vs.size ≤ sizeLine ∧ Vals xs vs.toList
theorem SqF.sq {K : PySem.W.Frag} {H : Hp} {a : Addr} {xs : List V} (h : SqF K H a xs) : SqL K H a xs := h.elim (fun ⟨o, e⟩ => .inl (.inr ⟨o, e⟩)) .inr
mutual
inductive Rp (K : PySem.W.Frag) (O : Addr → Prop) (H : Hp) : V → D → Prop
  | non : Rp K O H .non .none
  | bl (b : Bool) : Rp K O H (.bl b) (.bool b)
  | int (i : Int) : Rp K O H (.int i) (.int i)
  | str (x : Str) : Rp K O H (.str x) (.str x)
  | tup {a : Addr} {xs : List V} {ds : List D} : H a = some (.tup xs) → RpL K O H xs ds → Rp K O H (.ref a) (.tuple ds)
  | box {a : Addr} {u : HO} {d : D} : ¬ O a → Rl H a u → Ct K O H u d → Rp K O H (.ref a) d
  | scr {a : Addr} {xs : List V} {ds : List D} : SqF K H a xs → RpL K O H xs ds → Rp K O H (.ref a) (.dict [(.none, .list ds)])
inductive RpL (K : PySem.W.Frag) (O : Addr → Prop) (H : Hp) : List V → List D → Prop
  | nil : RpL K O H [] []
  | cons {v : V} {d : D} {vs : List V} {ds : List D} : Rp K O H v d → RpL K O H vs ds → RpL K O H (v :: vs) (d :: ds)
inductive Ct (K : PySem.W.Frag) (O : Addr → Prop) (H : Hp) : HO → D → Prop
  | lst {xs : List V} {ds : List D} : RpL K O H xs ds → Ct K O H (.lst xs) (.list ds)
  | dk {kvs : List (Key × V)} {ds : List (D × D)} : ds.map (·.1) = kvs.map (fun p => keyD p.1) → RpL K O H (kvs.map (·.2)) (ds.map (·.2)) → Ct K O H (.dK kvs) (.dict ds)
  | dt {kvs : List (List Key × V)} {ds : List (D × D)} : ds.map (·.1) = kvs.map (fun p => .tuple (p.1.map keyD)) → RpL K O H (kvs.map (·.2)) (ds.map (·.2)) → Ct K O H (.dT kvs) (.dict ds)
end
def cont : HO → Bool
  | .lst _ => true
  | .dK _ => true
  | .dT _ => true
  | _ => false
structure Mono (O : Addr → Prop) (H : Hp) (O' : Addr → Prop) (H' : Hp) : Prop where
  box : ∀ a u, ¬ O a → cont u = true → Rl H a u → Rl H' a u ∧ ¬ O' a
  tup : ∀ a xs, H a = some (.tup xs) → H' a = some (.tup xs)
  frz : ∀ a o u, H a = some (.frz o u) → H' a = some (.frz o u)
theorem Mono.refl {O : Addr → Prop} {H : Hp} : Mono O H O H := ⟨fun _ _ h _ r => ⟨r, h⟩, fun _ _ r => r, fun _ _ _ r => r⟩
theorem Mono.trans {O O1 O2 : Addr → Prop} {H H1 H2 : Hp} (a : Mono O H O1 H1) (b : Mono O1 H1 O2 H2) : Mono O H O2 H2 :=
  ⟨fun x u h c r => b.box x u (a.box x u h c r).2 c (a.box x u h c r).1, fun x xs r => b.tup x xs (a.tup x xs r), fun x o u r => b.frz x o u (a.frz x o u r)⟩
section
variable {K : PySem.W.Frag} {O O' : Addr → Prop} {H H' : Hp}
theorem Ct.cont {u : HO} {d : D} (h : Ct K O H u d) : cont u = true := by cases h <;> rfl
theorem Ct.isC {u : HO} {d : D} (h : Ct K O H u d) : isC d = true := by cases h <;> rfl
mutual
theorem Rp.mono (m : Mono O H O' H') : ∀ {v : V} {d : D}, Rp K O H v d → Rp K O' H' v d
  | _, _, .non => .non
  | _, _, .bl b => .bl b
  | _, _, .int i => .int i
  | _, _, .str x => .str x
  | _, _, .tup h r => .tup (m.tup _ _ h) (RpL.mono m r)
  | _, _, .box h r c => .box (m.box _ _ h c.cont r).2 (m.box _ _ h c.cont r).1 (Ct.mono m c)
  | _, _, .scr h r => .scr (h.imp (fun ⟨o, e⟩ => ⟨o, m.frz _ _ _ e⟩) id) (RpL.mono m r)
theorem RpL.mono (m : Mono O H O' H') : ∀ {vs : List V} {ds : List D}, RpL K O H vs ds → RpL K O' H' vs ds
  | _, _, .nil => .nil
  | _, _, .cons h r => .cons (Rp.mono m h) (RpL.mono m r)
theorem Ct.mono (m : Mono O H O' H') : ∀ {u : HO} {d : D}, Ct K O H u d → Ct K O' H' u d
  | _, _, .lst r => .lst (RpL.mono m r)
  | _, _, .dk e r => .dk e (RpL.mono m r)
  | _, _, .dt e r => .dt e (RpL.mono m r)
end
theorem RpL.length : ∀ {vs : List V} {ds : List D}, RpL K O H vs ds → vs.length = ds.length
  | _, _, .nil => rfl
  | _, _, .cons _ r => by rw [List.length_cons, List.length_cons, RpL.length r]
theorem RpL.append : ∀ {vs ws : List V} {ds es : List D}, RpL K O H vs ds → RpL K O H ws es → RpL K O H (vs ++ ws) (ds ++ es)
  | _, _, _, _, .nil, s => s
  | _, _, _, _, .cons h r, s => .cons h (RpL.append r s)
theorem RpL.get : ∀ {vs : List V} {ds : List D} {i : Nat} {d : D}, RpL K O H vs ds → ds[i]? = some d → ∃ v, vs[i]? = some v ∧ Rp K O H v d
  | _, _, _, _, .nil, e => by simp at e
  | _, _, 0, _, .cons h _, e => by simp at e; subst e; exact ⟨_, rfl, h⟩
  | _, _, i + 1, _, .cons _ r, e => by
    obtain ⟨v, h1, h2⟩ := RpL.get (i := i) r (by simpa using e)
    exact ⟨v, by simpa using h1, h2⟩
theorem RpL.get' : ∀ {vs : List V} {ds : List D} {i : Nat} {v : V}, RpL K O H vs ds → vs[i]? = some v → ∃ d, ds[i]? = some d ∧ Rp K O H v d
  | _, _, _, _, .nil, e => by simp at e
  | _, _, 0, _, .cons h _, e => by simp at e; subst e; exact ⟨_, rfl, h⟩
  | _, _, i + 1, _, .cons _ r, e => by
    obtain ⟨v, h1, h2⟩ := RpL.get' (i := i) r (by simpa using e)
    exact ⟨v, by simpa using h1, h2⟩
theorem RpL.drop : ∀ {vs : List V} {ds : List D} (n : Nat), RpL K O H vs ds → RpL K O H (vs.drop n) (ds.drop n)
  | _, _, 0, r => r
  | _, _, _ + 1, .nil => .nil
  | _, _, n + 1, .cons _ r => RpL.drop n r
theorem RpL.take : ∀ {vs : List V} {ds : List D} (n : Nat), RpL K O H vs ds → RpL K O H (vs.take n) (ds.take n)
  | _, _, 0, _ => .nil
  | _, _, _ + 1, .nil => .nil
  | _, _, n + 1, .cons h r => .cons h (RpL.take n r)
theorem RpL.rev : ∀ {vs : List V} {ds : List D}, RpL K O H vs ds → RpL K O H vs.reverse ds.reverse
  | _, _, .nil => .nil
  | _, _, .cons h r => by
    rw [List.reverse_cons, List.reverse_cons]
    exact RpL.append (RpL.rev r) (.cons h .nil)
theorem RpL.rep {vs : List V} {ds : List D} (r : RpL K O H vs ds) : ∀ n : Nat, RpL K O H (List.replicate n vs).flatten (List.replicate n ds).flatten
  | 0 => .nil
  | n + 1 => by
    rw [List.replicate_succ, List.replicate_succ, List.flatten_cons, List.flatten_cons]
    exact RpL.append r (RpL.rep r n)
theorem RpL.strs (xs : List Str) : RpL K O H (xs.map V.str) (xs.map PyData.str) := by
  induction xs with
  | nil => exact .nil
  | cons x r ih => exact .cons (.str x) ih
def Rq (K : PySem.W.Frag) (O : Addr → Prop) (H : Hp) (v : V) (d : D) : Prop := Rp K O H v d ∨ ∃ a u, v = .ref a ∧ Rl H a u ∧ Ct K O H u d
theorem Rp.rq {v : V} {d : D} (h : Rp K O H v d) : Rq K O H v d := .inl h
theorem Rq.none {v : V} (h : Rq K O H v .none) : v = .non := by
  rcases h with h | ⟨_, _, _, _, c⟩
  · cases h with
    | non => rfl
    | box _ _ c => cases c
  · cases c
theorem Rq.isNone {v : V} {d : D} (h : Rq K O H v d) (e : v = .non) : d = .none := by
  subst e
  rcases h with h | ⟨_, _, e, _⟩
  · cases h; rfl
  · cases e
theorem Rq.bool {v : V} {b : Bool} (h : Rq K O H v (.bool b)) : v = .bl b := by
  rcases h with h | ⟨_, _, _, _, c⟩
  · cases h with
    | bl => rfl
    | box _ _ c => cases c
  · cases c
theorem Rq.int {v : V} {i : Int} (h : Rq K O H v (.int i)) : v = .int i := by
  rcases h with h | ⟨_, _, _, _, c⟩
  · cases h with
    | int => rfl
    | box _ _ c => cases c
  · cases c
theorem Rq.str {v : V} {x : Str} (h : Rq K O H v (.str x)) : v = .str x := by
  rcases h with h | ⟨_, _, _, _, c⟩
  · cases h with
    | str => rfl
    | box _ _ c => cases c
  · cases c
theorem Rq.tup {v : V} {ds : List D} (h : Rq K O H v (.tuple ds)) : ∃ a xs, v = .ref a ∧ H a = some (.tup xs) ∧ RpL K O H xs ds := by
  rcases h with h | ⟨_, _, _, _, c⟩
  · cases h with
    | tup h r => exact ⟨_, _, rfl, h, r⟩
    | box _ _ c => cases c
  · cases c
theorem Rq.list {v : V} {ds : List D} (h : Rq K O H v (.list ds)) : ∃ a xs, v = .ref a ∧ H a = some (.lst xs) ∧ RpL K O H xs ds := by
  rcases h with h | ⟨_, _, rfl, r, c⟩
  · cases h with
    | box _ r c =>
      cases c with
      | lst q => exact ⟨_, _, rfl, r.lst, q⟩
  · cases c with
    | lst q => exact ⟨_, _, rfl, r.lst, q⟩
theorem Rq.dict {v : V} {ds : List (D × D)} (h : Rq K O H v (.dict ds)) (k : dOk ds = true) : ∃ a u, v = .ref a ∧ Rl H a u ∧ Ct K O H u (.dict ds) := by
  rcases h with h | ⟨a, u, e, r, c⟩
  · cases h with
    | box _ r c => exact ⟨_, _, rfl, r, c⟩
    | scr _ _ => cases k
  · exact ⟨a, u, e, r, c⟩
theorem Ct.noScr {u : HO} {x : D} (h : Ct K O H u (.dict [(.none, x)])) : False := by
  generalize e : (PyData.dict [(PyData.none, x)]) = d at h
  cases h with
  | lst _ => cases e
  | @dk kvs ds k _ =>
    cases e
    cases kvs with
    | nil => cases k
    | cons p r => obtain ⟨q, _⟩ := p; cases q <;> cases k
  | @dt kvs ds k _ =>
    cases e
    cases kvs with
    | nil => cases k
    | cons p r => cases k
theorem Rq.scr {v : V} {ds : List D} (h : Rq K O H v (.dict [(.none, .list ds)])) : ∃ a xs, v = .ref a ∧ SqF K H a xs ∧ RpL K O H xs ds := by
  rcases h with h | ⟨a, u, e, r, c⟩
  · cases h with
    | box _ _ c => exact c.noScr.elim
    | scr h r => exact ⟨_, _, rfl, h, r⟩
  · exact c.noScr.elim
mutual
theorem Rp.dp : ∀ {v : V} {d : D}, Rp K O H v d → d.plain = true → Dp K H v d
  | _, _, .non, _ => .non
  | _, _, .bl b, _ => .bl b
  | _, _, .int i, _ => .int i
  | _, _, .str x, _ => .str x
  | _, _, .tup h r, e => .tup (.of h) (RpL.dp r (by rw [PyData.plain] at e; exact e))
  | _, _, .box _ r c, e => Ct.dp r.rd c e
  | _, _, .scr _ _, e => by rw [PyData.plain] at e; cases e
theorem RpL.dp : ∀ {vs : List V} {ds : List D}, RpL K O H vs ds → PyData.plainAll ds = true → DpAll K H vs ds
  | _, _, .nil, _ => .nil
  | _, _, .cons h r, e => by
    rw [PyData.plainAll, Bool.and_eq_true] at e
    exact .cons (Rp.dp h e.1) (RpL.dp r e.2)
theorem Ct.dp : ∀ {a : Addr} {u : HO} {d : D}, Rd H a u → Ct K O H u d → d.plain = true → Dp K H (.ref a) d
  | _, _, _, r, .lst q, e => .lst (.inl r) (RpL.dp q (by rw [PyData.plain] at e; exact e))
  | _, _, _, _, .dk _ _, e => by rw [PyData.plain] at e; cases e
  | _, _, _, _, .dt _ _, e => by rw [PyData.plain] at e; cases e
end
theorem Rq.dp {v : V} {d : D} (h : Rq K O H v d) (e : d.plain = true) : Dp K H v d := by
  rcases h with h | ⟨a, u, rfl, r, c⟩
  · exact h.dp e
  · exact Ct.dp r.rd c e
end
def Own (ρ : Env) (σ : St) (i : Nat) (a : Addr) : Prop := (∃ d, ρ[i]? = some (.own d)) ∧ σ[i]? = some (some (.ref a))
def SlotOk (K : PySem.W.Frag) (O : Addr → Prop) (H : Hp) (σ : St) (i : Nat) : Slot → Prop
  | .emp => True
  | .shr d => ∃ v, σ[i]? = some (some v) ∧ Rp K O H v d
  | .own d => ∃ a u, σ[i]? = some (some (.ref a)) ∧ O a ∧ H a = some u ∧ Ct K O H u d
structure SR (K : PySem.W.Frag) (O : Addr → Prop) (H : Hp) (ρ : Env) (σ : St) : Prop where
  oc : ∀ a, O a → ∃ u, H a = some u ∧ cont u = true
  sl : ∀ i s, ρ[i]? = some s → SlotOk K O H σ i s
  inj : ∀ i j a, Own ρ σ i a → Own ρ σ j a → i = j
  len : ρ.length = σ.length
structure Step (O : Addr → Prop) (H : Hp) (ρ : Env) (σ : St) (O' : Addr → Prop) (H' : Hp) (ρ' : Env) (σ' : St) : Prop where
  tr : ∀ a o, H a = some o → (∀ i, ¬ Own ρ σ i a) → H' a = some o ∧ (O' a ↔ O a)
  dom : ∀ a, H a ≠ none → H' a ≠ none
  ow : ∀ i a, Own ρ' σ' i a → Own ρ σ i a ∨ H a = none
section
variable {K : PySem.W.Frag} {O O' O1 O2 : Addr → Prop} {H H' H1 H2 : Hp} {ρ ρ' ρ1 ρ2 : Env} {σ σ' σ1 σ2 : St}
theorem Step.refl : Step O H ρ σ O H ρ σ := ⟨fun _ _ h _ => ⟨h, .rfl⟩, fun _ h => h, fun i _ h => .inl h⟩
theorem Step.trans (s : Step O H ρ σ O1 H1 ρ1 σ1) (t : Step O1 H1 ρ1 σ1 O2 H2 ρ2 σ2) : Step O H ρ σ O2 H2 ρ2 σ2 where
  tr := fun a o h n => by
    obtain ⟨h1, e1⟩ := s.tr a o h n
    have n1 : ∀ i, ¬ Own ρ1 σ1 i a := fun i w => by
      rcases s.ow i a w with q | q
      · exact n i q
      · rw [q] at h; cases h
    obtain ⟨h2, e2⟩ := t.tr a o h1 n1
    exact ⟨h2, e2.trans e1⟩
  dom := fun a h => t.dom a (s.dom a h)
  ow := fun i a w => by
    rcases t.ow i a w with q | q
    · exact s.ow i a q
    · refine .inr ?_
      cases z : H a with
      | none => rfl
      | some o => exact absurd q (s.dom a (by rw [z]; intro e; cases e))
theorem SR.own (r : SR K O H ρ σ) {i : Nat} {a : Addr} (w : Own ρ σ i a) : O a := by
  obtain ⟨⟨d, e⟩, z⟩ := w
  obtain ⟨b, u, z', o, _⟩ := r.sl i _ e
  rw [z] at z'; cases z'; exact o
theorem rd_cont {a : Addr} {u : HO} (r : Rd H a u) (h : ∃ o, H a = some o ∧ cont o = true) : H a = some u := by
  rcases r with r | ⟨o, r⟩
  · exact r
  · obtain ⟨q, e, c⟩ := h
    rw [r] at e; cases e; cases c
theorem SR.mono (r : SR K O H ρ σ) (s : Step O H ρ σ O' H' ρ' σ') : Mono O H O' H' where
  box := fun a u n c h => by
    have nw : ∀ i, ¬ Own ρ σ i a := fun i w => n (r.own w)
    rcases h with h | ⟨l, o, h⟩
    · obtain ⟨h', e⟩ := s.tr a _ h nw
      exact ⟨.inl h', fun z => n (e.mp z)⟩
    · obtain ⟨h', e⟩ := s.tr a _ h nw
      exact ⟨.inr ⟨l, o, h'⟩, fun z => n (e.mp z)⟩
  tup := fun a xs h => by
    have nO : ¬ O a := fun z => by
      obtain ⟨u, e, c⟩ := r.oc a z
      rw [h] at e; cases e; cases c
    exact (s.tr a _ h fun i w => nO (r.own w)).1
  frz := fun a o u h => by
    have nO : ¬ O a := fun z => by
      obtain ⟨w, e, c⟩ := r.oc a z
      rw [h] at e; cases e; cases c
    exact (s.tr a _ h fun i w => nO (r.own w)).1
def RR (K : PySem.W.Frag) (H₀ : Hp) (O : Addr → Prop) (H : Hp) (ρ : Env) (σ : St) (r : Rs) (v : V) : Prop :=
  if (r.1 && isC r.2) = true then ∃ a u, v = .ref a ∧ O a ∧ H₀ a = none ∧ (∀ i, ¬ Own ρ σ i a) ∧ H a = some u ∧ Ct K O H u r.2 else Rp K O H v r.2
theorem RR.val {H₀ : Hp} {d : D} {v : V} (h : Rp K O H v d) : RR K H₀ O H ρ σ (false, d) v := by
  unfold RR; rw [if_neg (by simp)]; exact h
theorem RR.flat {H₀ : Hp} {fl : Bool} {d : D} {v : V} (h : Rp K O H v d) (e : isC d = false) : RR K H₀ O H ρ σ (fl, d) v := by
  unfold RR; rw [if_neg (by simp [e])]; exact h
def rel (O : Addr → Prop) (a : Addr) : Addr → Prop := fun b => O b ∧ b ≠ a
end
end Mi
end
section
namespace Mi
open PySem PySem.Spec L2
structure Rt where
  K : PySem.W.Frag
  cf : Cf
  ex : Exn → (Addr → Prop) → Hp → Value → Option Addr → Prop
def Ans {α : Type} (R : Rt) (W : WX) (σ : L2.St) (O : Addr → Prop) (H : Hp) (ρ : Env) (o : Out α) (C : α → Env → (Addr → Prop) → Hp → Prop) : Prop :=
  match o with
  | .ok r ρ' => ∀ O' H', SR R.K O' H' ρ' σ → Step O H ρ σ O' H' ρ' σ → C r ρ' O' H'
  | .exc x ρ' => ∀ O' H', SR R.K O' H' ρ' σ → Step O H ρ σ O' H' ρ' σ → ∀ cls d, R.ex x O' H' cls d → W cls d σ H'
  | .bad => False
section
variable {α β : Type} {R : Rt} {W : WX} {σ : L2.St} {O O1 : Addr → Prop} {H H1 : Hp} {ρ ρ1 : Env}
theorem Ans.rebase {o : Out α} {C : α → Env → (Addr → Prop) → Hp → Prop} (A : Ans R W σ O H ρ o C) (T : Step O H ρ σ O1 H1 ρ1 σ) : Ans R W σ O1 H1 ρ1 o C := by
  cases o with
  | ok r ρ' => exact fun O' H' s t => A O' H' s (T.trans t)
  | exc x ρ' => exact fun O' H' s t => A O' H' s (T.trans t)
  | bad => exact A
theorem Ans.bind {o : Out α} {f : α → Env → Out β} {C : β → Env → (Addr → Prop) → Hp → Prop} {C1 : α → Env → (Addr → Prop) → Hp → Prop} (A : Ans R W σ O H ρ (o.bind f) C)
    (k : ∀ r ρ1 O1 H1, SR R.K O1 H1 ρ1 σ → Step O H ρ σ O1 H1 ρ1 σ → Ans R W σ O H ρ (f r ρ1) C → C1 r ρ1 O1 H1) : Ans R W σ O H ρ o C1 := by
  cases o with
  | ok r ρ' => exact fun O' H' s t => k r ρ' O' H' s t A
  | exc x ρ' => exact A
  | bad => exact A
theorem Ans.imp {o : Out α} {C C1 : α → Env → (Addr → Prop) → Hp → Prop} (A : Ans R W σ O H ρ o C)
    (k : ∀ r ρ1 O1 H1, SR R.K O1 H1 ρ1 σ → Step O H ρ σ O1 H1 ρ1 σ → C r ρ1 O1 H1 → C1 r ρ1 O1 H1) : Ans R W σ O H ρ o C1 := by
  cases o with
  | ok r ρ' => exact fun O' H' s t => k r ρ' O' H' s t (A O' H' s t)
  | exc x ρ' => exact A
  | bad => exact A
theorem Ans.lift {o : Option α} {C : α → Env → (Addr → Prop) → Hp → Prop} (A : Ans R W σ O H ρ (lift o ρ1) C) : ∃ r, o = some r ∧ Ans R W σ O H ρ (.ok r ρ1) C := by
  cases o with
  | none => exact A.elim
  | some r => exact ⟨r, rfl, A⟩
theorem Ans.liftB {o : Option α} {f : α → Env → Out β} {C : β → Env → (Addr → Prop) → Hp → Prop} (A : Ans R W σ O H ρ ((Mi.lift o ρ1).bind f) C) : ∃ r, o = some r ∧ Ans R W σ O H ρ (f r ρ1) C := by
  cases o with
  | none => exact A.elim
  | some r => exact ⟨r, rfl, A⟩
theorem give {r : Rs} {v : V} (S : SR R.K O1 H1 ρ1 σ) (T : Step O H ρ σ O1 H1 ρ1 σ) (h : RR R.K H O1 H1 ρ1 σ r v) :
    ∃ O', SR R.K O' H1 ρ1 σ ∧ Step O H ρ σ O' H1 ρ1 σ ∧ Rp R.K O' H1 v r.2 ∧ (∀ a, O' a → O1 a) := by
  unfold RR at h
  by_cases e : (r.1 && isC r.2) = true
  · rw [if_pos e] at h
    obtain ⟨a, u, rfl, o, n, nw, hu, c⟩ := h
    have m : Mono O1 H1 (rel O1 a) H1 := ⟨fun b w nb _ q => ⟨q, fun z => nb z.1⟩, fun b xs q => q, fun b o w q => q⟩
    have ownNe : ∀ i b, Own ρ1 σ i b → b ≠ a := fun i b w z => nw i (by rw [← z]; exact w)
    refine ⟨rel O1 a, ⟨fun b ob => S.oc b ob.1, fun i s hs => ?_, S.inj, S.len⟩, ⟨fun b ob hb w => ?_, T.dom, T.ow⟩, ?_, fun b z => z.1⟩
    · have q := S.sl i s hs
      cases s with
      | emp => trivial
      | shr d => obtain ⟨v, e1, r1⟩ := q; exact ⟨v, e1, r1.mono m⟩
      | own d =>
        obtain ⟨b, w, e1, ob, e2, c2⟩ := q
        exact ⟨b, w, e1, ⟨ob, ownNe i b ⟨⟨d, hs⟩, e1⟩⟩, e2, c2.mono m⟩
    · obtain ⟨h1, h2⟩ := T.tr b ob hb w
      have nb : b ≠ a := fun z => by subst z; rw [n] at hb; cases hb
      exact ⟨h1, ⟨fun z => h2.mp z.1, fun z => ⟨h2.mpr z, nb⟩⟩⟩
    · exact .box (fun z => z.2 rfl) (.inl hu) (c.mono m)
  · rw [if_neg e] at h
    exact ⟨O1, S, T, h, fun _ z => z⟩
end
section
variable {X : Cx} {e : Expr} {t t' : TE}
theorem pe_wk (h : PE X e t) (k : ∀ σ H Q, t' σ H Q → t σ H Q) : PE X e t' := ⟨fun pins s σ H Q I q => h.run pins s σ H Q I (k σ H Q q)⟩
theorem pt_wk {t t' : TT} (h : PT X e t) (k : ∀ σ H Q, t' σ H Q → t σ H Q) : PT X e t' := ⟨fun pins s σ H Q I q => h.run pins s σ H Q I (k σ H Q q)⟩
theorem pa_wk {es : List Expr} {t t' : TA} (h : PA X es t) (k : ∀ σ H Q, t' σ H Q → t σ H Q) : PA X es t' := ⟨fun pos pins s σ H Q I q => h.run pos pins s σ H Q I (k σ H Q q)⟩
theorem ps_wk {st : Stmt} {t t' : TS} (h : PS X st t) (k : ∀ D σ H, t' D σ H → t D σ H) : PS X st t' := ⟨fun pins s σ H D I q => h.run pins s σ H D I (k D σ H q)⟩
end
def tE (R : Rt) (W : WX) (c : CE) : TE := fun σ H Q => ∃ O ρ, SR R.K O H ρ σ ∧ Ans R W σ O H ρ (evE R.cf c ρ) (fun r ρ' O' H' => ∀ v, RR R.K H O' H' ρ' σ r v → Q v H')
def tT (R : Rt) (W : WX) (c : CE) : TT := fun σ H Q => ∃ O ρ, SR R.K O H ρ σ ∧ Ans R W σ O H ρ (evE R.cf c ρ) (fun r _ _ H' => ∃ b, tru r.2 = some b ∧ Q b H')
def OpR' (K : PySem.W.Frag) (O : Addr → Prop) (H : Hp) (σ : L2.St) : Opd → V → Prop
  | .val d, v => Rp K O H v d
  | .wr ds, v => ∃ a xs, v = .ref a ∧ (∀ H', SqT K H' a xs) ∧ ∀ O' H', RpL K O' H' xs ds
  | .at i, v => σ[i]? = some (some v)
def tO (R : Rt) (W : WX) (c : CE) : TE := fun σ H Q => ∃ O ρ, SR R.K O H ρ σ ∧ Ans R W σ O H ρ (opd c (evE R.cf c) ρ) (fun o _ O' H' => ∀ v, OpR' R.K O' H' σ o v → Q v H')
def tL (R : Rt) (W : WX) (cs : List CE) : TA := fun σ H Q => ∃ O ρ, SR R.K O H ρ σ ∧ Ans R W σ O H ρ (evL R.cf cs ρ) (fun ds _ O' H' => ∀ vs, RpL R.K O' H' vs ds → Q vs H')
theorem OpR'.rq {K : PySem.W.Frag} {O : Addr → Prop} {H : Hp} {ρ : Env} {σ : L2.St} {o : Opd} {v : V} {d : D} (S : SR K O H ρ σ) (h : OpR' K O H σ o v) (e : res ρ o = some d) : Rq K O H v d := by
  cases o with
  | val d' =>
    have e' : d' = d := Option.some.inj e
    subst e'
    exact .inl h
  | wr ds => cases e
  | «at» i =>
    have h : σ[i]? = some (some v) := h
    have e : (ρ[i]?).bind slotD = some d := e
    cases q : ρ[i]? with
    | none => rw [q] at e; cases e
    | some s =>
      rw [q] at e
      have z := S.sl i s q
      cases s with
      | emp => cases e
      | shr d' =>
        have e' : d' = d := Option.some.inj e
        subst e'
        obtain ⟨w, e1, r1⟩ := z
        rw [h] at e1; cases e1
        exact .inl r1
      | own d' =>
        have e' : d' = d := Option.some.inj e
        subst e'
        obtain ⟨a, u, e1, o1, e2, c⟩ := z
        rw [h] at e1; cases e1
        exact .inr ⟨a, u, rfl, .inl e2, c⟩
theorem OpR'.mono {K : PySem.W.Frag} {O O' : Addr → Prop} {H H' : Hp} {σ : L2.St} {o : Opd} {v : V} (h : OpR' K O H σ o v) (m : Mono O H O' H') : OpR' K O' H' σ o v := by
  cases o with
  | val d => exact Rp.mono m h
  | wr ds => exact h
  | «at» i => exact h
section
variable {X : Cx} {R : Rt} {W : WX} {e a b : Expr} {es : List Expr} {c ca cb : CE} {cs : List CE} {pos : Pos} {j : Nat}
theorem tE_cst {d : D} {σ : L2.St} {H : Hp} {Q : VK} {v : V} (h : tE R W (.cst d) σ H Q) (f : ∀ O, Rp R.K O H v d) : Q v H := by
  obtain ⟨O, ρ, S, A⟩ := h
  rw [evE] at A
  exact A O H S Step.refl v (RR.val (f O))
theorem me_int {i : Int} : PE X (.Constant (.int i) j pos) (tE R W (.cst (.int i))) := pe_wk pe_int fun _ _ _ h => tE_cst h fun _ => .int i
theorem me_bl {x : Bool} : PE X (.Constant (.bool x) j pos) (tE R W (.cst (.bool x))) := pe_wk pe_bl fun _ _ _ h => tE_cst h fun _ => .bl x
theorem me_non : PE X (.Constant .none j pos) (tE R W (.cst .none)) := pe_wk pe_non fun _ _ _ h => tE_cst h fun _ => .non
theorem me_str {x : Str} : PE X (.Constant (.str x) j pos) (tE R W (.cst (.str x))) := pe_wk pe_str fun _ _ _ h => tE_cst h fun _ => .str x
theorem SR.shr {K : PySem.W.Frag} {O : Addr → Prop} {H : Hp} {ρ : Env} {σ : L2.St} {i : Nat} {d : D} (S : SR K O H ρ σ) (e : ρ[i]? = some (.own d)) :
    ∃ a, σ[i]? = some (some (.ref a)) ∧ SR K (rel O a) H (ρ.set i (.shr d)) σ ∧ Step O H ρ σ (rel O a) H (ρ.set i (.shr d)) σ ∧ Rp K (rel O a) H (.ref a) d := by
  obtain ⟨a, u, ea, oa, hu, c⟩ := S.sl i _ e
  have hi : i < ρ.length := (List.getElem?_eq_some_iff.mp e).1
  have m : Mono O H (rel O a) H := ⟨fun b w nb _ q => ⟨q, fun z => nb z.1⟩, fun b xs q => q, fun b o w q => q⟩
  have key : Rp K (rel O a) H (.ref a) d := .box (fun z => z.2 rfl) (.inl hu) (c.mono m)
  have own : ∀ k b, Own (ρ.set i (.shr d)) σ k b → Own ρ σ k b ∧ k ≠ i := fun k b ⟨⟨d', e1⟩, e2⟩ => by
    by_cases hk : i = k
    · subst hk
      rw [List.getElem?_set_self hi] at e1; cases e1
    · rw [List.getElem?_set_ne hk] at e1
      exact ⟨⟨⟨d', e1⟩, e2⟩, fun z => hk z.symm⟩
  refine ⟨a, ea, ⟨fun b ob => S.oc b ob.1, fun k s hs => ?_, fun k l b x y => S.inj k l b (own k b x).1 (own l b y).1, by rw [List.length_set]; exact S.len⟩, ⟨fun b o hb w => ⟨hb, ⟨fun z => z.1, fun z => ⟨z, fun q => ?_⟩⟩⟩, fun _ h => h, fun k b w => .inl (own k b w).1⟩, key⟩
  · by_cases hk : i = k
    · subst hk
      rw [List.getElem?_set_self hi] at hs; cases hs
      exact ⟨.ref a, ea, key⟩
    · rw [List.getElem?_set_ne hk] at hs
      have q := S.sl k s hs
      cases s with
      | emp => trivial
      | shr d => obtain ⟨v, e1, r1⟩ := q; exact ⟨v, e1, r1.mono m⟩
      | own d' =>
        obtain ⟨b, w, e1, ob, e2, c2⟩ := q
        refine ⟨b, w, e1, ⟨ob, fun z => ?_⟩, e2, c2.mono m⟩
        subst z
        exact hk (S.inj i k b ⟨⟨d, e⟩, ea⟩ ⟨⟨d', hs⟩, e1⟩)
  · subst q
    exact w i ⟨⟨d, e⟩, ea⟩
theorem me_var {i : Nat} (h : PE X e (tVar i)) : PE X e (tE R W (.var i)) := pe_wk h fun σ H Q ⟨O, ρ, S, A⟩ => by
  unfold evE at A
  split at A
  · rename_i d q
    obtain ⟨v, e1, r1⟩ := S.sl i _ q
    exact ⟨v, e1, A O H S Step.refl v (RR.val r1)⟩
  · rename_i d q
    obtain ⟨a, ea, S', T', r⟩ := S.shr q
    exact ⟨.ref a, ea, A _ H S' T' _ (RR.val r)⟩
  · exact A.elim
theorem mo_var {i : Nat} (h : PE X e (tVar i)) : PE X e (tO R W (.var i)) := pe_wk h fun σ H Q ⟨O, ρ, S, A⟩ => by
  unfold opd at A
  simp only at A
  split at A
  · rename_i d q
    obtain ⟨a, u, ea, _⟩ := S.sl i _ q
    exact ⟨.ref a, ea, A O H S Step.refl _ ea⟩
  · rename_i d q
    obtain ⟨v, e1, r1⟩ := S.sl i _ q
    exact ⟨v, e1, A O H S Step.refl v r1⟩
  · exact A.elim
def isVar : CE → Bool
  | .var _ => true
  | .wr _ => true
  | _ => false
theorem opd_of {ev : Env → Out Rs} {ρ : Env} (h : isVar c = false) : opd c ev ρ = (ev ρ).bind fun r ρ' => .ok (.val r.2) ρ' := by
  cases c <;> first | rfl | cases h
theorem mo_of (hv : isVar c = false) (h : PE X e (tE R W c)) : PE X e (tO R W c) := pe_wk h fun σ H Q ⟨O, ρ, S, A⟩ => by
  rw [opd_of hv] at A
  refine ⟨O, ρ, S, A.bind fun r ρ1 O1 H1 S1 T1 A1 v hv => ?_⟩
  obtain ⟨O', S', T', rp, _⟩ := give S1 T1 hv
  exact A1 O' H1 S' T' v rp
theorem ma_nil : PA X [] (tL R W []) := pa_wk pa_nil fun σ H Q ⟨O, ρ, S, A⟩ => by
  rw [evL] at A
  exact A O H S Step.refl [] .nil
theorem ma_cons (ha : PE X e (tE R W c)) (hr : PA X es (tL R W cs)) (hs : starEach (e :: es) X.env = (false, eval e X.env) :: starEach es X.env) : PA X (e :: es) (tL R W (c :: cs)) :=
  pa_wk (pa_cons ha hr hs) fun σ H Q ⟨O, ρ, S, A⟩ => by
    rw [evL] at A
    refine ⟨O, ρ, S, A.bind fun r ρ1 O1 H1 S1 T1 A1 v hv => ?_⟩
    obtain ⟨O', S', T', rp, _⟩ := give S1 T1 hv
    refine ⟨O', ρ1, S', (A1.rebase T').bind fun ds ρ2 O2 H2 S2 T2 A2 vs hvs => ?_⟩
    exact A2 O2 H2 S2 T2 (v :: vs) (.cons (rp.mono (S'.mono T2)) hvs)
theorem SR.lay {K : PySem.W.Frag} {O : Addr → Prop} {H : Hp} {ρ : Env} {σ : L2.St} {p : Addr} {u : HO} (S : SR K O H ρ σ) (hp : H p = none) :
    SR K O (upd H p u) ρ σ ∧ Step O H ρ σ O (upd H p u) ρ σ ∧ Mono O H O (upd H p u) := by
  have T : Step O H ρ σ O (upd H p u) ρ σ := ⟨fun a o h _ => ⟨by rw [upd_ne (ne_of_none h hp)]; exact h, .rfl⟩, fun a h => by
    by_cases z : a = p
    · subst z; rw [upd_same]; intro q; cases q
    · rw [upd_ne z]; exact h, fun i a w => .inl w⟩
  have m : Mono O H O (upd H p u) := S.mono T
  refine ⟨⟨fun a oa => ?_, fun i s hs => ?_, S.inj, S.len⟩, T, m⟩
  · obtain ⟨w, h, c⟩ := S.oc a oa
    exact ⟨w, by rw [upd_ne (ne_of_none h hp)]; exact h, c⟩
  · have q := S.sl i s hs
    cases s with
    | emp => trivial
    | shr d => obtain ⟨v, e1, r1⟩ := q; exact ⟨v, e1, r1.mono m⟩
    | own d =>
      obtain ⟨b, w, e1, ob, e2, c2⟩ := q
      exact ⟨b, w, e1, ob, by rw [upd_ne (ne_of_none e2 hp)]; exact e2, c2.mono m⟩
def addO (O : Addr → Prop) (p : Addr) : Addr → Prop := fun a => O a ∨ a = p
theorem SR.layO {K : PySem.W.Frag} {O : Addr → Prop} {H : Hp} {ρ : Env} {σ : L2.St} {p : Addr} {u : HO} (S : SR K O H ρ σ) (hp : H p = none) (hc : cont u = true) :
    SR K (addO O p) (upd H p u) ρ σ ∧ Step O H ρ σ (addO O p) (upd H p u) ρ σ ∧ Mono O H (addO O p) (upd H p u) ∧ ∀ i, ¬ Own ρ σ i p := by
  have nO : ∀ i, ¬ Own ρ σ i p := fun i w => by
    obtain ⟨u, h, _⟩ := S.oc p (S.own w)
    rw [hp] at h; cases h
  have T : Step O H ρ σ (addO O p) (upd H p u) ρ σ := ⟨fun a o h _ => ⟨by rw [upd_ne (ne_of_none h hp)]; exact h, ⟨fun z => z.elim id fun q => absurd q (ne_of_none h hp), .inl⟩⟩, fun a h => by
    by_cases z : a = p
    · subst z; rw [upd_same]; intro q; cases q
    · rw [upd_ne z]; exact h, fun i a w => .inl w⟩
  have m : Mono O H (addO O p) (upd H p u) := S.mono T
  refine ⟨⟨fun a oa => ?_, fun i s hs => ?_, S.inj, S.len⟩, T, m, nO⟩
  · rcases oa with oa | oa
    · obtain ⟨w, h, c⟩ := S.oc a oa
      exact ⟨w, by rw [upd_ne (ne_of_none h hp)]; exact h, c⟩
    · subst oa; exact ⟨u, upd_same, hc⟩
  · have q := S.sl i s hs
    cases s with
    | emp => trivial
    | shr d => obtain ⟨v, e1, r1⟩ := q; exact ⟨v, e1, r1.mono m⟩
    | own d =>
      obtain ⟨b, w, e1, ob, e2, c2⟩ := q
      exact ⟨b, w, e1, .inl ob, by rw [upd_ne (ne_of_none e2 hp)]; exact e2, c2.mono m⟩
theorem me_tup {x1 : Nat} (h : PA X es (tL R W cs)) : PE X (.Tuple es x1 pos) (tE R W (.tup cs)) := pe_wk (pe_tup h) fun σ H Q ⟨O, ρ, S, A⟩ => by
  rw [evE] at A
  refine ⟨O, ρ, S, A.bind fun ds ρ1 O1 H1 S1 T1 A1 vs hvs => ?_⟩
  split at A1
  · rename_i hl
    refine ⟨by rw [hvs.length]; exact hl, fun p hp => ?_⟩
    obtain ⟨S2, T2, m⟩ := S1.lay (u := .tup vs) hp
    exact A1 O1 _ S2 (T1.trans T2) _ (RR.val (.tup upd_same (hvs.mono m)))
  · exact A1.elim
theorem RR.new {K : PySem.W.Frag} {H₀ : Hp} {O : Addr → Prop} {H : Hp} {ρ : Env} {σ : L2.St} {a : Addr} {u : HO} {d : D} (o : O a) (n : H₀ a = none) (w : ∀ i, ¬ Own ρ σ i a) (h : H a = some u) (c : Ct K O H u d) : RR K H₀ O H ρ σ (true, d) (.ref a) := by
  unfold RR
  rw [if_pos (by simp [c.isC])]
  exact ⟨a, u, rfl, o, n, w, h, c⟩
theorem Step.none {O O' : Addr → Prop} {H H' : Hp} {ρ ρ' : Env} {σ σ' : L2.St} (T : Step O H ρ σ O' H' ρ' σ') {a : Addr} (h : H' a = none) : H a = none := by
  cases z : H a with
  | none => rfl
  | some o => exact absurd h (T.dom a (by rw [z]; intro q; cases q))
theorem me_lst (h : PA X es (tL R W cs)) : PE X (.List es pos) (tE R W (.lst cs)) := pe_wk (pe_lst h) fun σ H Q ⟨O, ρ, S, A⟩ => by
  rw [evE] at A
  refine ⟨O, ρ, S, A.bind fun ds ρ1 O1 H1 S1 T1 A1 vs hvs => ?_⟩
  split at A1
  · rename_i hl
    refine ⟨by rw [hvs.length]; exact hl, fun p hp => ?_⟩
    obtain ⟨S2, T2, m, nw⟩ := S1.layO (u := .lst vs) hp rfl
    exact A1 _ _ S2 (T1.trans T2) _ (RR.new (.inr rfl) (T1.none hp) nw upd_same (.lst (hvs.mono m)))
  · exact A1.elim
end
end Mi
end
section
namespace Mi
open PySem PySem.Spec L2
section
variable {l : Addr} {its : Array Value} {n : Nat} {dd : Option Addr} {sl : Array (Option Value)} {k : Int} {t : Tok}
theorem mul_same (c0 : (decide (k < -(2 ^ 63)) || decide (k ≥ 2 ^ 63)) = false) (c1 : (its.isEmpty || k == 1) = true) :
    Meets (Builtin.«tuple.__mul__» ⟨[.ref l, .int k t], []⟩) (fun _ F s => s.heap.get? l = some ⟨.type "tuple", dd, .seq its n, sl⟩ ∧ F (.ok (.ret (.ref l))) s) :=
  .of_wp fun P w A F s ⟨hl, h⟩ => by
    rcases s with ⟨h0, g0, d0, t0, o0⟩
    have f1 := AutoSeq1.idx_int
    wp_walk using wpAny_loadPart' hl
    all_goals (try (refine wpAny_ite_false (decide_eq_false (by rw [c0]; decide)) ?_; wp_walk using wpAny_loadPart' hl))
    all_goals (try (refine wpAny_ite_true (decide_eq_true c1) ?_; wp_walk using wpAny_loadPart' hl))
    exact ⟨_, rfl, h⟩
theorem mul_zero (c0 : (decide (k < -(2 ^ 63)) || decide (k ≥ 2 ^ 63)) = false) (c1 : (its.isEmpty || k == 1) = false) (c2 : (decide (k ≤ 0) || its.isEmpty) = true) :
    Meets (Builtin.«tuple.__mul__» ⟨[.ref l, .int k t], []⟩) (fun _ F s => s.heap.get? l = some ⟨.type "tuple", dd, .seq its n, sl⟩ ∧
      F (.ok (.ret (.ref s.heap.objs.size))) { s with heap := s.heap.push { cls := .type "tuple", data := .seq #[] } }) :=
  .of_wp fun P w A F s ⟨hl, h⟩ => by
    rcases s with ⟨h0, g0, d0, t0, o0⟩
    have f1 := AutoSeq1.idx_int
    wp_walk using wpAny_loadPart' hl
    all_goals (try (refine wpAny_ite_false (decide_eq_false (by rw [c0]; decide)) ?_; wp_walk using wpAny_loadPart' hl))
    all_goals (try (refine wpAny_ite_false (decide_eq_false (by rw [c1]; decide)) ?_; wp_walk using wpAny_loadPart' hl))
    all_goals (try (refine wpAny_ite_true (decide_eq_true c2) ?_; wp_walk using wpAny_loadPart' hl))
    exact ⟨_, rfl, h⟩
end
def rRepA (K : PySem.W.Frag) : R2 := fun x y H Q => ∃ l k xs, x = .ref l ∧ y = .int k ∧ SqT K H l xs ∧ 0 ≤ k ∧ k ≤ 1000 ∧ xs.length ≤ 1000 ∧ (∀ v H', (v = .ref l ∧ H' = H ∧ (List.replicate k.toNat xs).flatten = xs) ∨
  (∃ p, H p = none ∧ v = .ref p ∧ H' = upd H p (.tup (List.replicate k.toNat xs).flatten)) → Q v H')
theorem rep_nil (m : Nat) : (List.replicate m ([] : List V)).flatten = [] := by
  induction m with
  | zero => rfl
  | succ m ih => rw [List.replicate_succ, List.flatten_cons, ih]; rfl
theorem op_repA {X : Cx} : OpR X (binaryOp .Mult) (rRepA X.K) := by
  intro pins s σ H x y v u Q I rx ry ⟨l, k, xs, ex, ey, hT, h0, h1, hz, q⟩
  subst ex ey
  by_cases hbig : xs ≠ [] ∧ 2 ≤ k
  · exact op_repT pins s σ H _ _ v u Q I rx ry ⟨l, k, xs, rfl, rfl, hT, hbig.1, hbig.2, h1, hz, fun p hp => q _ _ (.inr ⟨p, hp, rfl, rfl⟩)⟩
  · cases rx
    obtain ⟨t, eu⟩ := ry
    subst eu
    obtain ⟨its, r, ⟨⟨cls, dd, data, sl⟩, ho, hc, n, hd⟩, hs⟩ := I.tuple hT
    have hc : cls = .type "tuple" := hc
    have hd : data = .seq its.toArray n := hd
    subst hc hd
    have c0 : (decide (k < -(2 ^ 63)) || decide (k ≥ 2 ^ 63)) = false := by
      rw [Bool.or_eq_false_iff]; exact ⟨decide_eq_false (by omega), decide_eq_false (by omega)⟩
    have len : its.length = xs.length := r.length.symm
    have emp : its.toArray.isEmpty = true ↔ xs = [] := by
      rw [Array.isEmpty_iff_size_eq_zero, List.size_toArray, len, List.length_eq_zero_iff]
    have road : ∀ {Q : Value → Shared → Prop} {F : PySem.Builtin}, True → wpAny (model X.prog X.w) X.A (call (.builtin "tuple.__mul__") [.ref l, .int k t]) Q X.xe s → wpAny (model X.prog X.w) X.A (binaryOp .Mult (.ref l) (.int k t)) Q X.xe s := fun {Q _} _ hq =>
      wpAny_binaryOp_repeat_ref (T := "tuple") (U := "int") (by decide) ⟨_, ho, rfl⟩ (fun s' => typeIs_int s' k t) noFill_tuple_mul F.fills_int_mul F.slot_int_rmul repeat_tuple F.slot_int_index.lookup
        (call_meets F.slot_int_rmul (typeIs_int s k t) F.entry_int_rmul (F.args_int_rmul_2 _ _) (int_rmul_tuple k t l its.toArray n dd sl) ⟨ho, rfl, ⟨_, ho, rfl⟩, hq⟩)
    by_cases c1 : (its.toArray.isEmpty || k == 1) = true
    · refine road (F := fun _ => default) trivial (call_meets F.slot_tuple_mul ⟨_, ho, rfl⟩ F.entry_tuple_mul (F.args_tuple_mul_2 _ _) (mul_same c0 c1) ⟨ho, ?_⟩)
      refine ⟨.ref l, H, I, rfl, q _ _ (.inl ⟨rfl, rfl, ?_⟩)⟩
      rw [Bool.or_eq_true] at c1
      rcases c1 with c | c
      · rw [emp.mp c]; exact rep_nil _
      · rw [show k = 1 from eq_of_beq c]; simp
    · have c1' : (its.toArray.isEmpty || k == 1) = false := by simpa using c1
      have hk : k ≤ 0 := by
        rw [Bool.or_eq_false_iff] at c1'
        have e1 : k ≠ 1 := fun e => by rw [e] at c1'; exact absurd c1'.2 (by decide)
        have e2 : xs ≠ [] := fun e => by rw [emp.mpr e] at c1'; exact absurd c1'.1 (by decide)
        by_cases h2 : 2 ≤ k
        · exact absurd ⟨e2, h2⟩ hbig
        · omega
      refine road (F := fun _ => default) trivial (call_meets F.slot_tuple_mul ⟨_, ho, rfl⟩ F.entry_tuple_mul (F.args_tuple_mul_2 _ _) (mul_zero c0 c1' (by rw [decide_eq_true hk]; rfl)) ⟨ho, ?_⟩)
      have ek : k.toNat = 0 := by omega
      have fr := I.hok.fresh (Nat.le_refl s.heap.objs.size)
      refine ⟨.ref s.heap.objs.size, _, I.laid (t' := s.toks) (o := .tup (List.replicate k.toNat xs).flatten) (fun b ob q => Heap.get?_push_of_some _ q) (Nat.le_refl _) ?_, rfl, q _ _ (.inr ⟨_, fr, rfl, rfl⟩)⟩
      rw [ek]
      exact ⟨Nat.zero_le _, [], .nil, PyProof.Rows.IsTup.new _ _⟩
end Mi
end
section
namespace Mi
open PySem PySem.Spec L2
def Ext (K : PySem.W.Frag) (O : Addr → Prop) (H : Hp) (r : Rs) (v : V) (H' : Hp) : Prop :=
  (H' = H ∧ Rp K O H v r.2) ∨ ∃ p u, v = .ref p ∧ H p = none ∧ H' = upd H p u ∧ ((∃ xs ds, u = .tup xs ∧ r.2 = .tuple ds ∧ RpL K O H xs ds) ∨ (r.1 = true ∧ Ct K O H u r.2))
theorem Ext.val {K : PySem.W.Frag} {O : Addr → Prop} {H : Hp} {fl : Bool} {d : D} {v : V} (h : Rp K O H v d) : Ext K O H (fl, d) v H := .inl ⟨rfl, h⟩
theorem Ext.tup {K : PySem.W.Frag} {O : Addr → Prop} {H : Hp} {fl : Bool} {ds : List D} {xs : List V} {p : Addr} (hp : H p = none) (h : RpL K O H xs ds) : Ext K O H (fl, .tuple ds) (.ref p) (upd H p (.tup xs)) := .inr ⟨p, _, rfl, hp, rfl, .inl ⟨xs, ds, rfl, rfl, h⟩⟩
theorem Ext.new {K : PySem.W.Frag} {O : Addr → Prop} {H : Hp} {d : D} {u : HO} {p : Addr} (hp : H p = none) (h : Ct K O H u d) : Ext K O H (true, d) (.ref p) (upd H p u) := .inr ⟨p, u, rfl, hp, rfl, .inr ⟨rfl, h⟩⟩
section
variable {K : PySem.W.Frag} {O O1 : Addr → Prop} {H H₀ H' : Hp} {ρ ρ₀ : Env} {σ σ₀ : L2.St} {r : Rs} {v : V}
theorem RR.up {H₁ : Hp} (h : RR K H₁ O H ρ σ r v) (k : ∀ a, H₁ a = none → H₀ a = none) : RR K H₀ O H ρ σ r v := by
  unfold RR at h ⊢
  split at h
  · rename_i e
    rw [if_pos e]
    obtain ⟨a, u, e1, o, n, w, q⟩ := h
    exact ⟨a, u, e1, o, k a n, w, q⟩
  · rename_i e
    rw [if_neg e]
    exact h
theorem Ext.done {d : D} {fl : Bool} (S : SR K O H ρ σ) (T : Step O₀ H₀ ρ₀ σ₀ O H ρ σ) (h : Ext K O H (fl, d) v H') (hf : isC d = true → fl = true → H' ≠ H) :
    ∃ O', SR K O' H' ρ σ ∧ Step O₀ H₀ ρ₀ σ₀ O' H' ρ σ ∧ RR K H₀ O' H' ρ σ (fl, d) v := by
  rcases h with ⟨rfl, h⟩ | ⟨p, u, rfl, hp, rfl, h⟩
  · refine ⟨O, S, T, ?_⟩
    cases e : (fl && isC d) with
    | false => unfold RR; rw [if_neg (by rw [e]; simp)]; exact h
    | true =>
      rw [Bool.and_eq_true] at e
      exact absurd rfl (hf e.2 e.1)
  · rcases h with ⟨xs, ds, rfl, e, h⟩ | ⟨e, c⟩
    · obtain ⟨S2, T2, m⟩ := S.lay (u := .tup xs) hp
      have e : d = .tuple ds := e
      subst e
      exact ⟨O, S2, T.trans T2, RR.flat (.tup upd_same (h.mono m)) rfl⟩
    · have e : fl = true := e
      subst e
      have c : Ct K O H u d := c
      obtain ⟨S2, T2, m, nw⟩ := S.layO (u := u) hp c.cont
      exact ⟨_, S2, T.trans T2, RR.new (.inr rfl) (T.none hp) nw upd_same (c.mono m)⟩
end
def rBin (K : PySem.W.Frag) (f : D → D → Option Rs) : R2 := fun x y H Q => ∃ O d1 d2 r, Rq K O H x d1 ∧ Rq K O H y d2 ∧ f d1 d2 = some r ∧ ∀ v H', Ext K O H r v H' → (isC r.2 = true → r.1 = true → H' ≠ H) → Q v H'
theorem upd_new {H : Hp} {p : Addr} {u : HO} (hp : H p = none) : upd H p u ≠ H := fun e => by
  have : upd H p u p = H p := by rw [e]
  rw [upd_same, hp] at this; cases this
section
variable {X : Cx}
theorem cutV_rp {K : PySem.W.Frag} {O : Addr → Prop} {H : Hp} {xs : List V} {ds : List D} {lo hi : Option Int} (h : RpL K O H xs ds) : RpL K O H (cutV xs lo hi) (cutD ds lo hi) := by
  unfold cutV cutD
  rw [h.length]
  exact (h.drop _).take _
theorem atI_rp {K : PySem.W.Frag} {O : Addr → Prop} {H : Hp} {xs : List V} {ds : List D} {i : Int} {d : D} (h : RpL K O H xs ds) (e : atI ds i = some d) : ∃ v, atI xs i = some v ∧ Rp K O H v d := by
  unfold atI at e ⊢
  rw [h.length]
  cases q : ixN ds.length i with
  | none => rw [q] at e; cases e
  | some j =>
    rw [q] at e
    exact h.get e
theorem op_binD (op : Operator) : OpR X (binaryOp op) (rBin X.K (binOp op)) := by
  intro pins s σ H x y v u Q I rx ry ⟨O, d1, d2, r, h1, h2, e, k⟩
  unfold binOp at e
  split at e
  · obtain rfl := h1.int
    obtain rfl := h2.int
    cases e
    exact op_add pins s σ H _ _ v u Q I rx ry ⟨_, _, rfl, rfl, k _ H (.val (.int _)) (fun q => nomatch q)⟩
  · obtain rfl := h1.str
    obtain rfl := h2.str
    split at e
    · rename_i hz
      cases e
      exact op_add_str pins s σ H _ _ v u Q I rx ry ⟨_, _, rfl, rfl, hz, k _ H (.val (.str _)) (fun q => nomatch q)⟩
    · cases e
  · rename_i xs ys
    obtain ⟨a, vs, rfl, ha, ra⟩ := h1.tup
    obtain ⟨b, ws, rfl, hb, rb⟩ := h2.tup
    split at e
    · rename_i hz
      cases e
      refine op_catA pins s σ H _ _ v u Q I rx ry ⟨a, b, vs, ws, rfl, rfl, .of ha, .of hb, by rw [ra.length, rb.length]; exact hz, fun z => ?_, fun z z' => ?_, fun _ _ p hp => k _ _ (.tup hp (ra.append rb)) (fun q => nomatch q)⟩
      · subst z
        cases ra
        exact k _ H (.val (.tup hb rb)) (fun q => nomatch q)
      · subst z'
        cases rb
        rw [List.append_nil] at k
        exact k _ H (.val (.tup ha ra)) (fun q => nomatch q)
    · cases e
  · rename_i xs ys
    obtain ⟨a, vs, rfl, ha, ra⟩ := h1.list
    obtain ⟨b, ws, rfl, hb, rb⟩ := h2.list
    split at e
    · rename_i hz
      cases e
      exact op_cat pins s σ H _ _ v u Q I rx ry ⟨a, b, vs, ws, rfl, rfl, ha, hb, by rw [ra.length, rb.length]; exact hz, fun p hp => k _ _ (.new hp (.lst (ra.append rb))) (fun _ _ => upd_new hp)⟩
    · cases e
  · obtain rfl := h1.int
    obtain rfl := h2.int
    cases e
    exact op_sub pins s σ H _ _ v u Q I rx ry ⟨_, _, rfl, rfl, k _ H (.val (.int _)) (fun q => nomatch q)⟩
  · obtain rfl := h1.int
    obtain rfl := h2.int
    split at e
    · rename_i hz
      cases e
      exact op_mulW pins s σ H _ _ v u Q I rx ry ⟨_, _, rfl, rfl, (by unfold mulOk at hz; unfold CMulW; exact of_decide_eq_true hz), k _ H (.val (.int _)) (fun q => nomatch q)⟩
    · cases e
  · rename_i xs kk
    obtain ⟨a, vs, rfl, ha, ra⟩ := h1.tup
    obtain rfl := h2.int
    split at e
    · rename_i hz
      cases e
      refine op_repA pins s σ H _ _ v u Q I rx ry ⟨a, kk, vs, rfl, rfl, .of ha, hz.1, hz.2.1, by rw [ra.length]; exact hz.2.2, fun v' H' z => ?_⟩
      have rr := ra.rep kk.toNat
      rcases z with ⟨rfl, rfl, z⟩ | ⟨p, hp, rfl, rfl⟩
      · rw [z] at rr
        exact k _ _ (.val (.tup ha rr)) (fun q => nomatch q)
      · exact k _ _ (.tup hp rr) (fun q => nomatch q)
    · cases e
  · rename_i xs kk
    obtain ⟨a, vs, rfl, ha, ra⟩ := h1.list
    obtain rfl := h2.int
    split at e
    · rename_i hz
      cases e
      have h3 : xs.length * kk.toNat ≤ 1000 * 1000 := Nat.mul_le_mul hz.2.2 (by omega)
      exact op_rep pins s σ H _ _ v u Q I rx ry ⟨a, kk, vs, rfl, rfl, ha, by omega, by omega, by rw [ra.length, sizeLine_eq]; omega, fun p hp => k _ _ (.new hp (.lst (ra.rep _))) (fun _ _ => upd_new hp)⟩
    · cases e
  · obtain rfl := h1.int
    obtain rfl := h2.int
    split at e
    · rename_i hz
      cases e
      exact op_mod pins s σ H _ _ v u Q I rx ry ⟨_, _, rfl, rfl, hz, k _ H (.val (.int _)) (fun q => nomatch q)⟩
    · cases e
  · obtain rfl := h1.int
    obtain rfl := h2.int
    split at e
    · rename_i hz
      cases e
      unfold divOk at hz
      rw [Bool.and_eq_true, decide_eq_true_eq, decide_eq_true_eq] at hz
      exact op_fdivW pins s σ H _ _ v u Q I rx ry ⟨_, _, rfl, rfl, hz, k _ H (.val (.int _)) (fun q => nomatch q)⟩
    · cases e
  · obtain rfl := h1.int
    obtain rfl := h2.int
    split at e
    · rename_i hz
      cases e
      exact op_pow pins s σ H _ _ v u Q I rx ry ⟨_, _, rfl, rfl, hz, k _ H (.val (.int _)) (fun q => nomatch q)⟩
    · cases e
  · cases e
end
section
variable {X : Cx} {R : Rt} {W : WX} {a b : Expr} {ca cb : CE} {pos : Pos}
theorem Ans.fin {σ : L2.St} {O O1 : Addr → Prop} {H H1 H' : Hp} {ρ ρ1 : Env} {r : Rs} {v : V} {Q : V → Hp → Prop}
    (A : Ans R W σ O H ρ (.ok r ρ1) (fun r ρ' O' H' => ∀ v, RR R.K H O' H' ρ' σ r v → Q v H')) (S : SR R.K O1 H1 ρ1 σ) (T : Step O H ρ σ O1 H1 ρ1 σ) (h : Ext R.K O1 H1 r v H') (hf : isC r.2 = true → r.1 = true → H' ≠ H1) : Q v H' := by
  obtain ⟨fl, d⟩ := r
  obtain ⟨O', S', T', rr⟩ := Ext.done S T h hf
  exact A O' H' S' T' v rr
theorem me_bin {op : Operator} (hK : X.K = R.K) (ha : PE X a (tO R W ca)) (hb : PE X b (tO R W cb)) : PE X (.BinOp a op b pos) (tE R W (.bin op ca cb)) := pe_wk (pe_op (op_binD op) ha hb) fun σ H Q ⟨O, ρ, S, A⟩ => by
  rw [evE] at A
  refine ⟨O, ρ, S, A.bind fun o1 ρ1 O1 H1 S1 T1 A1 x hx => ?_⟩
  refine ⟨O1, ρ1, S1, (A1.rebase T1).bind fun o2 ρ2 O2 H2 S2 T2 A2 y hy => ?_⟩
  obtain ⟨r, e, A3⟩ := A2.lift
  cases e1 : res ρ2 o1 with
  | none => rw [e1] at e; cases e
  | some d1 =>
    rw [e1] at e
    cases e2 : res ρ2 o2 with
    | none => rw [e2] at e; cases e
    | some d2 =>
      rw [e2] at e
      rw [hK]
      refine ⟨O2, d1, d2, r, (hx.mono (S1.mono T2)).rq S2 e1, hy.rq S2 e2, e, fun v H' ex hf => ?_⟩
      have T := T1.trans T2
      obtain ⟨fl, d⟩ := r
      obtain ⟨O', S', T', rr⟩ := Ext.done S2 T2 ex hf
      exact A3 O' H' S' T' v (rr.up fun _ z => T1.none z)
end
end Mi
end
section
namespace Mi
open PySem PySem.Spec L2
def rCmp (K : PySem.W.Frag) (f : D → D → Option Bool) : R2 := fun x y H Q => ∃ O d1 d2 b, Rq K O H x d1 ∧ Rq K O H y d2 ∧ f d1 d2 = some b ∧ Q (.bl b) H
section
variable {X : Cx}
theorem depth_room {A : Around} {m : Nat} (hu : A.units + 200 < cLine) (h : m ≤ 64) : A.units + m < cLine := by omega
theorem eqOk_of {a b : D} (h : eqOk a b = true) : a.plain = true ∧ b.plain = true ∧ min a.depth b.depth ≤ 64 := by
  unfold eqOk at h
  rw [Bool.and_eq_true, Bool.and_eq_true, decide_eq_true_eq] at h
  exact ⟨h.1.1, h.1.2, h.2⟩
theorem op_eqM (hu : X.A.units + 200 < cLine) : OpR X (compareOp .Eq) (rCmp X.K (cmpOp .Eq)) := by
  intro pins s σ H x y v u Q I rx ry ⟨O, d1, d2, b, h1, h2, e, q⟩
  have e : (if eqOk d1 d2 = true then some (PyData.eqv d1 d2) else none) = some b := e
  split at e
  · rename_i ok
    cases e
    obtain ⟨p1, p2, p3⟩ := eqOk_of ok
    obtain ⟨as, r1⟩ := Dp.reads I d1 x v (h1.dp p1) rx
    obtain ⟨bs, r2⟩ := Dp.reads I d2 y u (h2.dp p2) ry
    exact SeqAt.eq_plain r1 r2 p1 p2 (depth_room hu p3) ⟨.bl _, H, I, rfl, q⟩
  · cases e
theorem op_neM (hu : X.A.units + 200 < cLine) : OpR X (compareOp .NotEq) (rCmp X.K (cmpOp .NotEq)) := by
  intro pins s σ H x y v u Q I rx ry ⟨O, d1, d2, b, h1, h2, e, q⟩
  have e : (if eqOk d1 d2 = true then some (!PyData.eqv d1 d2) else none) = some b := e
  split at e
  · rename_i ok
    cases e
    obtain ⟨p1, p2, p3⟩ := eqOk_of ok
    obtain ⟨as, r1⟩ := Dp.reads I d1 x v (h1.dp p1) rx
    obtain ⟨bs, r2⟩ := Dp.reads I d2 y u (h2.dp p2) ry
    exact SeqAt.ne_plain r1 r2 p1 p2 (depth_room hu p3) ⟨.bl _, H, I, rfl, q⟩
  · cases e
theorem op_ltM (hu : X.A.units + 200 < cLine) : OpR X (compareOp .Lt) (rCmp X.K (cmpOp .Lt)) := by
  intro pins s σ H x y v u Q I rx ry ⟨O, d1, d2, b, h1, h2, e, q⟩
  have e : ltD d1 d2 = some b := e
  unfold ltD at e
  split at e
  · obtain rfl := h1.int
    obtain rfl := h2.int
    cases e
    exact op_lt pins s σ H _ _ v u Q I rx ry ⟨_, _, rfl, rfl, q⟩
  · obtain rfl := h1.str
    obtain rfl := h2.str
    cases e
    exact op_lt_str pins s σ H _ _ v u Q I rx ry ⟨_, _, rfl, rfl, q⟩
  · rename_i xs ys
    split at e
    · rename_i ok
      cases e
      rw [Bool.and_eq_true] at ok
      obtain ⟨ok, p3⟩ := ok
      obtain ⟨p1, p2, p4⟩ := eqOk_of ok
      obtain ⟨as, r1⟩ := Dp.reads I _ x v (h1.dp p1) rx
      obtain ⟨bs, r2⟩ := Dp.reads I _ y u (h2.dp p2) ry
      exact PySem.W.rcLt_alike _ _ X.A s v u as bs r1 r2 p3 (fun z => nomatch z) (depth_room hu p4) X.prog X.w X.xe _ ⟨.bl _, H, I, rfl, q⟩
    · cases e
  · cases e
theorem op_gtM : OpR X (compareOp .Gt) (rCmp X.K (cmpOp .Gt)) := by
  intro pins s σ H x y v u Q I rx ry ⟨O, d1, d2, b, h1, h2, e, q⟩
  cases d1 <;> first | (cases e) | skip
  cases d2 <;> first | (cases e) | skip
  obtain rfl := h1.int
  obtain rfl := h2.int
  exact op_gt pins s σ H _ _ v u Q I rx ry ⟨_, _, rfl, rfl, q⟩
theorem op_leM : OpR X (compareOp .LtE) (rCmp X.K (cmpOp .LtE)) := by
  intro pins s σ H x y v u Q I rx ry ⟨O, d1, d2, b, h1, h2, e, q⟩
  cases d1 <;> first | (cases e) | skip
  cases d2 <;> first | (cases e) | skip
  obtain rfl := h1.int
  obtain rfl := h2.int
  exact op_le pins s σ H _ _ v u Q I rx ry ⟨_, _, rfl, rfl, q⟩
theorem op_geM : OpR X (compareOp .GtE) (rCmp X.K (cmpOp .GtE)) := by
  intro pins s σ H x y v u Q I rx ry ⟨O, d1, d2, b, h1, h2, e, q⟩
  cases d1 <;> first | (cases e) | skip
  cases d2 <;> first | (cases e) | skip
  obtain rfl := h1.int
  obtain rfl := h2.int
  exact op_ge pins s σ H _ _ v u Q I rx ry ⟨_, _, rfl, rfl, q⟩
theorem flatEq_iff : ∀ {a b : Key}, flatEq (keyD a) (keyD b) = decide (a = b)
  | .inl i, .inl j => by
    show (i == j) = _
    rw [key_ll]
  | .inr x, .inr y => by
    show (x == y) = _
    rw [key_rr, Bool.beq_eq_decide_eq]
  | .inl _, .inr _ => (key_lr _ _).symm
  | .inr _, .inl _ => (key_rl _ _).symm
theorem keyEq_k {a b : Key} : keyEq (keyD a) (keyD b) = decide (a = b) := by
  rw [← flatEq_iff]
  cases a <;> cases b <;> rfl
theorem flatEqs_iff : ∀ {as bs : List Key}, flatEqs (as.map keyD) (bs.map keyD) = decide (as = bs)
  | [], [] => rfl
  | [], _ :: _ => rfl
  | _ :: _, [] => rfl
  | a :: as, b :: bs => by
    show (flatEq (keyD a) (keyD b) && flatEqs (as.map keyD) (bs.map keyD)) = _
    rw [flatEq_iff, flatEqs_iff, Bool.eq_iff_iff, Bool.and_eq_true, decide_eq_true_eq, decide_eq_true_eq, decide_eq_true_eq, List.cons.injEq]
theorem keyEq_t {as bs : List Key} : keyEq (.tuple (as.map keyD)) (.tuple (bs.map keyD)) = decide (as = bs) := flatEqs_iff
theorem kV_rp {K : PySem.W.Frag} {O : Addr → Prop} {H : Hp} : ∀ k : Key, Rp K O H (kV k) (keyD k)
  | .inl i => .int i
  | .inr x => .str x
theorem kV_of {K : PySem.W.Frag} {O : Addr → Prop} {H : Hp} {y : V} {k : D} (h : Rq K O H y k) (e : flatK k = true) : ∃ q, y = kV q ∧ k = keyD q := by
  cases k with
  | int i => exact ⟨.inl i, h.int, rfl⟩
  | str x => exact ⟨.inr x, h.str, rfl⟩
  | none => cases e
  | bool _ => cases e
  | list _ => cases e
  | tuple _ => cases e
  | dict _ => cases e
theorem kVs_of {K : PySem.W.Frag} {O : Addr → Prop} {H : Hp} : ∀ {ys : List V} {ks : List D}, RpL K O H ys ks → ks.all flatK = true → ∃ qs : List Key, ys = qs.map kV ∧ ks = qs.map keyD
  | _, _, .nil, _ => ⟨[], rfl, rfl⟩
  | _, _, .cons h r, e => by
    rw [List.all_cons, Bool.and_eq_true] at e
    obtain ⟨q, rfl, rfl⟩ := kV_of h.rq e.1
    obtain ⟨qs, rfl, rfl⟩ := kVs_of r e.2
    exact ⟨q :: qs, rfl, rfl⟩
theorem getK_of {K : PySem.W.Frag} {O : Addr → Prop} {H : Hp} {κ : Type} [DecidableEq κ] {f : κ → D} (fe : ∀ a b, keyEq (f a) (f b) = decide (a = b)) (k : κ) :
    ∀ {kvs : List (κ × V)} {ds : List (D × D)}, ds.map (·.1) = kvs.map (fun p => f p.1) → RpL K O H (kvs.map (·.2)) (ds.map (·.2)) →
      match getK ds (f k) with
      | some d => ∃ v, valV kvs k = some v ∧ Rp K O H v d
      | none => valV kvs k = none
  | [], [], _, _ => rfl
  | [], _ :: _, e, _ => by cases e
  | _ :: _, [], e, _ => by cases e
  | (k1, v1) :: kvs, (d1, w1) :: ds, e, r => by
    rw [List.map_cons, List.map_cons, List.cons.injEq] at e
    obtain ⟨e1, e2⟩ := e
    have e1 : d1 = f k1 := e1
    subst e1
    rw [List.map_cons, List.map_cons] at r
    cases r with
    | cons h r =>
      have ih := getK_of fe k e2 r
      unfold getK at ih ⊢
      rw [List.find?_cons]
      by_cases z : k1 = k
      · subst z
        rw [show keyEq (f k1) (f k1) = true by rw [fe]; exact decide_eq_true rfl]
        exact ⟨v1, valV_pos rfl, h⟩
      · rw [show keyEq (f k1) (f k) = false by rw [fe]; exact decide_eq_false z]
        rw [valV_neg z]
        exact ih
theorem fitsK_of {ds : List (D × D)} {k : D} (h : fitsK ds k = true) : keyOk k = true ∧ dOk ds = true ∧ ∀ p ∈ ds, sameKind p.1 k = true := by
  unfold fitsK at h
  rw [Bool.and_eq_true, Bool.and_eq_true, List.all_eq_true] at h
  exact ⟨h.1.1, h.1.2, h.2⟩
theorem Inv.asT {pins : List (Addr × Obj)} {s : Shared} {σ : L2.St} {H : Hp} {a : Addr} (I : Inv X pins σ H s) (e : H a = some (.dK [])) : Inv X pins σ (upd H a (.dT [])) s := by
  obtain ⟨z, hd, vs, rel, ob, es, ep, h1, h2, h3, h4, h5, h6⟩ := I.hok a _ e
  have ev : vs = [] := by cases rel; rfl
  subst ev
  have e0 : es.toList = [] := by
    generalize es.toList = l at h5
    cases h5
    rfl
  exact I.un (t' := s.toks) (h' := s.heap) (Un.write (x := a) (e := a) (by rw [e]; trivial) (.inl rfl) (fun _ _ _ q => q) ⟨ob, h1⟩)
    (I.hok.write (x := a) (e := a) (by rw [e]; trivial) (.inl rfl) (fun _ _ _ q => q) ⟨ob, h1⟩ ⟨Nat.zero_le _, hd, [], .nil, ob, es, ep, h1, h2, h3, e0, List.nodup_nil⟩)
theorem Inv.asK {pins : List (Addr × Obj)} {s : Shared} {σ : L2.St} {H : Hp} {a : Addr} (I : Inv X pins σ H s) (e : H a = some (.dT [])) : Inv X pins σ (upd H a (.dK [])) s := by
  obtain ⟨z, hd, xs, rel, ob, es, ep, h1, h2, h3, h4, h5⟩ := I.hok a _ e
  have ev : xs = [] := by cases rel; rfl
  subst ev
  have e0 : es.toList = [] := h4
  have hk : PySem.KeysOf (mixKind X.prog X.w) es := fun x hx => by
    have q : x ∈ es.toList := by simpa using hx
    rw [e0] at q
    cases q
  exact I.un (t' := s.toks) (h' := s.heap) (Un.write (x := a) (e := a) (by rw [e]; trivial) (.inl rfl) (fun _ _ _ q => q) ⟨ob, h1⟩)
    (I.hok.write (x := a) (e := a) (by rw [e]; trivial) (.inl rfl) (fun _ _ _ q => q) ⟨ob, h1⟩ ⟨Nat.zero_le _, hd, [], .nil, ob, es, ep, h1, h2, h3, hk, by rw [e0]; exact .nil, List.nodup_nil⟩)
end
end Mi
end
section
namespace Mi
open PySem PySem.Spec L2
def Rw (K : PySem.W.Frag) (O : Addr → Prop) (H : Hp) (v : V) (d : D) : Prop := Rq K O H v d ∨ ∃ a xs ds, v = .ref a ∧ (∀ H', SqT K H' a xs) ∧ (∀ O' H', RpL K O' H' xs ds) ∧ d = .tuple ds
section
variable {K : PySem.W.Frag} {O : Addr → Prop} {H : Hp}
theorem Rw.tup {v : V} {ds : List D} (h : Rw K O H v (.tuple ds)) : ∃ a xs, v = .ref a ∧ SqT K H a xs ∧ RpL K O H xs ds := by
  rcases h with h | ⟨a, xs, es, rfl, h, r, e⟩
  · obtain ⟨a, xs, rfl, h, r⟩ := h.tup
    exact ⟨a, xs, rfl, .of h, r⟩
  · cases e
    exact ⟨a, xs, rfl, h H, r O H⟩
theorem Rw.q {v : V} {d : D} (h : Rw K O H v d) (e : isTup d = false) : Rq K O H v d := by
  rcases h with h | ⟨a, xs, es, rfl, h, r, z⟩
  · exact h
  · subst z; cases e
end
section
variable {X : Cx}
theorem look {pins : List (Addr × Obj)} {s : Shared} {σ : L2.St} {H : Hp} {K : PySem.W.Frag} {O : Addr → Prop} {x y : V} {ds : List (D × D)} {k : D} (I : Inv X pins σ H s)
    (hx : Rq K O H x (.dict ds)) (hy : Rp K O H y k) (f : fitsK ds k = true) :
    ∃ a H2 o, x = .ref a ∧ Inv X pins σ H2 s ∧ (∀ s', Inv X pins σ H2 s' → Inv X pins σ H s') ∧ DGet H2 a y o ∧ (match getK ds k with | some d => ∃ v, o = some v ∧ Rp K O H v d | none => o = none) := by
  obtain ⟨ko, dk, sm⟩ := fitsK_of f
  obtain ⟨a, u, rfl, ru, c⟩ := hx.dict dk
  have flat : flatK k = true → ∃ q, y = kV q ∧ k = keyD q := kV_of hy.rq
  have tupl : flatK k = false → ∃ (b : Addr) (qs : List Key), y = .ref b ∧ H b = some (.tup (qs.map kV)) ∧ k = .tuple (qs.map keyD) := fun e => by
    cases k with
    | none => cases ko
    | bool _ => cases ko
    | int _ => cases e
    | str _ => cases e
    | list _ => cases ko
    | dict _ => cases ko
    | tuple xs =>
      cases hy with
      | tup h r =>
        obtain ⟨qs, rfl, rfl⟩ := kVs_of r ko
        exact ⟨_, qs, rfl, h, rfl⟩
      | box _ _ c => cases c
  have isT : flatK k = false → ∃ z, k = .tuple z := fun e => by
    obtain ⟨_, qs, _, _, q⟩ := tupl e
    exact ⟨_, q⟩
  cases c with
  | @dk kvs _ e r =>
    cases fk : flatK k with
    | true =>
      obtain ⟨q, rfl, rfl⟩ := flat fk
      refine ⟨a, H, valV kvs q, rfl, I, fun _ z => z, .inl ⟨kvs, q, ru.rd, rfl, rfl⟩, ?_⟩
      exact getK_of (fun _ _ => keyEq_k) q e r
    | false =>
      obtain ⟨b, qs, rfl, hb, rfl⟩ := tupl fk
      have em : ds = [] := by
        cases ds with
        | nil => rfl
        | cons p ps =>
          cases kvs with
          | nil => cases e
          | cons p' ps' =>
            rw [List.map_cons, List.map_cons, List.cons.injEq] at e
            have z := sm p List.mem_cons_self
            rw [e.1] at z
            obtain ⟨q, _⟩ := p'
            cases q <;> cases z
      subst em
      have ek : kvs = [] := by
        cases kvs with
        | nil => rfl
        | cons p ps => cases e
      subst ek
      have ha : H a = some (.dK []) := ru.elim id fun z => absurd rfl z.1.2.1
      refine ⟨a, _, none, rfl, Inv.asT I ha, fun s' I' => ?_, .inr ⟨[], qs, b, .inl upd_same, rfl, ?_, rfl⟩, rfl⟩
      · have J := Inv.asK I' upd_same
        rw [upd_upd] at J
        have eH : upd H a (.dK []) = H := by
          funext z
          by_cases hz : z = a
          · subst hz; rw [upd_same, ha]
          · rw [upd_ne hz]
        rw [eH] at J
        exact J
      · rw [upd_ne (ne_of hb ha (fun z => nomatch z))]; exact hb
  | @dt kvs _ e r =>
    cases fk : flatK k with
    | true =>
      obtain ⟨q, rfl, rfl⟩ := flat fk
      have em : ds = [] := by
        cases ds with
        | nil => rfl
        | cons p ps =>
          cases kvs with
          | nil => cases e
          | cons p' ps' =>
            rw [List.map_cons, List.map_cons, List.cons.injEq] at e
            have z := sm p List.mem_cons_self
            rw [e.1] at z
            cases q <;> cases z
      subst em
      have ek : kvs = [] := by
        cases kvs with
        | nil => rfl
        | cons p ps => cases e
      subst ek
      have ha : H a = some (.dT []) := ru.elim id fun z => absurd rfl z.1.2.2
      refine ⟨a, _, none, rfl, Inv.asK I ha, fun s' I' => ?_, .inl ⟨[], q, .inl upd_same, rfl, rfl⟩, rfl⟩
      have J := Inv.asT I' upd_same
      rw [upd_upd] at J
      have eH : upd H a (.dT []) = H := by
        funext z
        by_cases hz : z = a
        · subst hz; rw [upd_same, ha]
        · rw [upd_ne hz]
      rw [eH] at J
      exact J
    | false =>
      obtain ⟨b, qs, rfl, hb, rfl⟩ := tupl fk
      refine ⟨a, H, valV kvs qs, rfl, I, fun _ z => z, .inr ⟨kvs, qs, b, ru.rd, rfl, hb, rfl⟩, ?_⟩
      exact getK_of (f := fun q => .tuple (q.map keyD)) (fun _ _ => keyEq_t) qs e r
def rIsin (K : PySem.W.Frag) (ng : Bool) : R2 := fun x y H Q => ∃ O d1 d2 b, Rp K O H x d1 ∧ Rw K O H y d2 ∧ inOp d1 d2 = some b ∧ Q (.bl (if ng = true then !b else b)) H
theorem op_isin (hu : X.A.units + 200 < cLine) : OpR X (compareOp .In) (rIsin X.K false) := by
  intro pins s σ H x y v u Q I rx ry ⟨O, d1, d2, b, h1, h2, e, q⟩
  have q : Q (.bl b) H := q
  unfold inOp at e
  split at e
  · rename_i ys
    unfold inD at e
    split at e
    · rename_i ok
      cases e
      obtain ⟨p1, p2, p3⟩ := eqOk_of ok
      rw [PyData.plain] at p2
      rw [PyData.depth] at p3
      obtain ⟨a, xs, rfl, ha, ra⟩ := h2.tup
      obtain ⟨as, r1⟩ := Dp.reads I d1 x v (h1.dp p1) rx
      obtain ⟨bs, r2⟩ := Dp.reads I (.tuple ys) _ u (.tup ha (ra.dp p2)) ry
      exact SeqAt.in_tuple_data r2 r1 p2 p1 (by omega) ⟨.bl _, H, I, rfl, q⟩
    · cases e
  · rename_i ys
    unfold inD at e
    split at e
    · rename_i ok
      cases e
      obtain ⟨p1, p2, p3⟩ := eqOk_of ok
      have h2 := h2.q rfl
      obtain ⟨as, r1⟩ := Dp.reads I d1 x v (h1.dp p1) rx
      obtain ⟨bs, r2⟩ := Dp.reads I (.list ys) y u (h2.dp p2) ry
      rw [PyData.plain] at p2
      rw [PyData.depth] at p3
      exact SeqAt.in_list_data r2 r1 p2 p1 (by omega) ⟨.bl _, H, I, rfl, q⟩
    · cases e
  · rename_i x1 y1
    split at e
    · rename_i hl
      cases e
      obtain rfl := h1.rq.str
      obtain rfl := (h2.q rfl).str
      have ex : x1 = ⟨#[x1.cps.getD 0 0]⟩ := by
        obtain ⟨cs⟩ := x1
        have hl : cs.size = 1 := hl
        congr 1
        apply Array.ext
        · simp [hl]
        · intro i h h'
          have : i = 0 := by omega
          subst this
          simp [Array.getD, h]
      exact op_in_sign pins s σ H _ _ v u Q I rx ry ⟨_, _, congrArg V.str ex, rfl, q⟩
    · cases e
  · rename_i kvs
    split at e
    · rename_i f
      cases e
      obtain ⟨a, H2, o, rfl, I2, back, g, m⟩ := look I (h2.q rfl) h1 f
      cases ry
      have eo : o.isSome = (getK kvs d1).isSome := by
        cases z : getK kvs d1 with
        | none => rw [z] at m; rw [show o = none from m]; rfl
        | some d => rw [z] at m; obtain ⟨w, rfl, _⟩ := m; rfl
      exact d_in (by omega) I2 g rx fun s' I' => ⟨.bl _, H, back s' I', by rw [eo]; rfl, q⟩
    · cases e
  · cases e
theorem op_notin (hu : X.A.units + 200 < cLine) : OpR X (compareOp .NotIn) (rIsin X.K true) := by
  intro pins s σ H x y v u Q I rx ry ⟨O, d1, d2, b, h1, h2, e, q⟩
  have q : Q (.bl (!b)) H := q
  unfold inOp at e
  split at e
  · rename_i ys
    unfold inD at e
    split at e
    · rename_i ok
      cases e
      obtain ⟨p1, p2, p3⟩ := eqOk_of ok
      rw [PyData.plain] at p2
      rw [PyData.depth] at p3
      obtain ⟨a, xs, rfl, ha, ra⟩ := h2.tup
      obtain ⟨as, r1⟩ := Dp.reads I d1 x v (h1.dp p1) rx
      obtain ⟨bs, r2⟩ := Dp.reads I (.tuple ys) _ u (.tup ha (ra.dp p2)) ry
      exact SeqAt.notIn_tuple_data r2 r1 p2 p1 (by omega) ⟨.bl _, H, I, rfl, q⟩
    · cases e
  · rename_i ys
    unfold inD at e
    split at e
    · rename_i ok
      cases e
      obtain ⟨p1, p2, p3⟩ := eqOk_of ok
      have h2 := h2.q rfl
      obtain ⟨as, r1⟩ := Dp.reads I d1 x v (h1.dp p1) rx
      obtain ⟨bs, r2⟩ := Dp.reads I (.list ys) y u (h2.dp p2) ry
      rw [PyData.plain] at p2
      rw [PyData.depth] at p3
      exact SeqAt.notIn_list_data r2 r1 p2 p1 (by omega) ⟨.bl _, H, I, rfl, q⟩
    · cases e
  · rename_i x1 y1
    split at e
    · rename_i hl
      cases e
      obtain rfl := h1.rq.str
      obtain rfl := (h2.q rfl).str
      have ex : x1 = ⟨#[x1.cps.getD 0 0]⟩ := by
        obtain ⟨cs⟩ := x1
        have hl : cs.size = 1 := hl
        congr 1
        apply Array.ext
        · simp [hl]
        · intro i h h'
          have : i = 0 := by omega
          subst this
          simp [Array.getD, h]
      exact op_notIn_sign pins s σ H _ _ v u Q I rx ry ⟨_, _, congrArg V.str ex, rfl, q⟩
    · cases e
  · rename_i kvs
    split at e
    · rename_i f
      cases e
      obtain ⟨a, H2, o, rfl, I2, back, g, m⟩ := look I (h2.q rfl) h1 f
      cases ry
      have eo : o.isSome = (getK kvs d1).isSome := by
        cases z : getK kvs d1 with
        | none => rw [z] at m; rw [show o = none from m]; rfl
        | some d => rw [z] at m; obtain ⟨w, rfl, _⟩ := m; rfl
      exact d_notIn (by omega) I2 g rx fun s' I' => ⟨.bl _, H, back s' I', by rw [eo]; rfl, q⟩
    · cases e
  · cases e
end
end Mi
end
section
namespace Mi
open PySem PySem.Spec L2
section
variable {X : Cx}
def rIdx (K : PySem.W.Frag) : R2 := fun x y H Q => ∃ O d1 d2 d, Rq K O H x d1 ∧ Rp K O H y d2 ∧ idxOp d1 d2 = some d ∧ ∀ v, Rp K O H v d → Q v H
theorem ix_idx (hu : X.A.units + 200 < cLine) : IxR X (rIdx X.K) := by
  intro value slice pins s σ H x y v u Q I rx ry ⟨O, d1, d2, d, h1, h2, e, q⟩ hs
  unfold idxOp at e
  split at e
  · obtain ⟨a, xs, rfl, ha, ra⟩ := h1.list
    obtain rfl := h2.rq.int
    obtain ⟨w, ew, rw'⟩ := atI_rp ra e
    exact ix_list value slice pins s σ H _ _ v u Q I rx ry ⟨a, xs, _, w, rfl, rfl, .of ha, ew, q w rw'⟩ hs
  · obtain ⟨a, xs, rfl, ha, ra⟩ := h1.tup
    obtain rfl := h2.rq.int
    obtain ⟨w, ew, rw'⟩ := atI_rp ra e
    exact ix_tup value slice pins s σ H _ _ v u Q I rx ry ⟨a, xs, _, w, rfl, rfl, .of ha, ew, q w rw'⟩ hs
  · obtain rfl := h1.str
    obtain rfl := h2.rq.int
    split at e
    · rename_i hz
      obtain ⟨c, hc, rfl⟩ := Option.map_eq_some_iff.mp e
      exact ix_str value slice pins s σ H _ _ v u Q I rx ry ⟨_, _, c, rfl, rfl, hz, hc, q _ (.str _)⟩ hs
    · cases e
  · obtain ⟨a, xs, rfl, ha, ra⟩ := h1.scr
    obtain rfl := h2.rq.int
    obtain ⟨w, ew, rw'⟩ := atI_rp ra e
    exact ix_list value slice pins s σ H _ _ v u Q I rx ry ⟨a, xs, _, w, rfl, rfl, ha.sq, ew, q w rw'⟩ hs
  · split at e
    · rename_i f
      obtain ⟨a, H2, o, rfl, I2, back, g, m⟩ := look I h1 h2 f
      rw [e] at m
      obtain ⟨w, rfl, rw'⟩ := m
      cases rx
      exact PyProof.Rows.tail_any (dict_typeIs I2 g) PySem.F.slot_dict_getitem.lookup (d_getItem (by omega) I2 g ry fun w' s' I' r' => ⟨w, H, back s' I', r', q w rw'⟩) hs
    · cases e
  · cases e
def rSlc (K : PySem.W.Frag) : V → Option Int → Option Int → Hp → VK → Prop := fun x lo hi H Q => ∃ O d r, Rq K O H x d ∧ slcOp d lo hi = some r ∧ ∀ v H', Ext K O H r v H' → (isC r.2 = true → r.1 = true → H' ≠ H) → Q v H'
theorem cut_whole {α : Type} {xs : List α} {lo hi : Option Int} (h1 : HT.sIx xs.length 0 lo = 0) (h2 : HT.sIx xs.length xs.length hi = xs.length) : cutD xs lo hi = xs := by
  unfold cutD
  rw [h1, h2, List.drop_zero, Nat.sub_zero, List.take_length]
theorem sl_all : SlR X (rSlc X.K) := by
  intro pins s σ H x v vl vu lo hi sl Q I rx hs pl pu ⟨O, d, r, h, e, q⟩
  unfold slcOp at e
  split at e
  · cases e
    obtain ⟨a, xs, rfl, ha, ra⟩ := h.list
    exact sl_list pins s σ H _ v vl vu lo hi sl Q I rx hs pl pu ⟨a, xs, rfl, .of ha, fun p hp => q _ _ (.new hp (.lst (cutV_rp ra))) (fun _ _ => upd_new hp)⟩
  · cases e
    obtain ⟨a, xs, rfl, ha, ra⟩ := h.tup
    refine sl_tupA pins s σ H _ v vl vu lo hi sl Q I rx hs pl pu ⟨a, xs, rfl, .of ha, fun ⟨z1, z2⟩ => ?_, fun _ p hp => q _ _ (.tup hp (cutV_rp ra)) (fun z => nomatch z)⟩
    rw [ra.length] at z1 z2
    refine q _ _ (.val ?_) (fun z => nomatch z)
    rw [cut_whole z1 z2]
    exact .tup ha ra
  · split at e
    · rename_i hz
      cases e
      obtain rfl := h.str
      exact sl_str pins s σ H _ v vl vu lo hi sl Q I rx hs pl pu ⟨_, rfl, hz, q _ _ (.val (.str _)) (fun z => nomatch z)⟩
    · cases e
  · cases e
def rB1 (K : PySem.W.Frag) (f : B1) : List V → Hp → VK → Prop := fun xs H Q => ∃ O x d r, xs = [x] ∧ Rq K O H x d ∧ b1Op f d = some r ∧ ∀ v H', Ext K O H r v H' → (isC r.2 = true → r.1 = true → H' ≠ H) → Q v H'
variable {K : PySem.W.Frag} {O : Addr → Prop} {H : Hp}
theorem bools_of : ∀ {ds : List D} {bs : List Bool} {xs : List V}, boolsD ds = some bs → RpL K O H xs ds → xs = bs.map V.bl
  | [], bs, _, e, .nil => by cases e; rfl
  | .bool b :: ds, bs, _, e, .cons h r => by
    obtain ⟨cs, ec, rfl⟩ := Option.map_eq_some_iff.mp (show (boolsD ds).map (b :: ·) = some bs from e)
    rw [h.rq.bool, bools_of ec r]
    rfl
  | .none :: _, _, _, e, _ => by cases e
  | .int _ :: _, _, _, e, _ => by cases e
  | .str _ :: _, _, _, e, _ => by cases e
  | .list _ :: _, _, _, e, _ => by cases e
  | .tuple _ :: _, _, _, e, _ => by cases e
  | .dict _ :: _, _, _, e, _ => by cases e
theorem ints_of : ∀ {ds : List D} {bs : List Int} {xs : List V}, intsD ds = some bs → RpL K O H xs ds → xs = bs.map V.int
  | [], bs, _, e, .nil => by cases e; rfl
  | .int b :: ds, bs, _, e, .cons h r => by
    obtain ⟨cs, ec, rfl⟩ := Option.map_eq_some_iff.mp (show (intsD ds).map (b :: ·) = some bs from e)
    rw [h.rq.int, ints_of ec r]
    rfl
  | .none :: _, _, _, e, _ => by cases e
  | .bool _ :: _, _, _, e, _ => by cases e
  | .str _ :: _, _, _, e, _ => by cases e
  | .list _ :: _, _, _, e, _ => by cases e
  | .tuple _ :: _, _, _, e, _ => by cases e
  | .dict _ :: _, _, _, e, _ => by cases e
theorem strs_of : ∀ {ds : List D} {bs : List Str} {xs : List V}, strsD ds = some bs → RpL K O H xs ds → xs = bs.map V.str
  | [], bs, _, e, .nil => by cases e; rfl
  | .str b :: ds, bs, _, e, .cons h r => by
    obtain ⟨cs, ec, rfl⟩ := Option.map_eq_some_iff.mp (show (strsD ds).map (b :: ·) = some bs from e)
    rw [h.rq.str, strs_of ec r]
    rfl
  | .none :: _, _, _, e, _ => by cases e
  | .bool _ :: _, _, _, e, _ => by cases e
  | .int _ :: _, _, _, e, _ => by cases e
  | .list _ :: _, _, _, e, _ => by cases e
  | .tuple _ :: _, _, _, e, _ => by cases e
  | .dict _ :: _, _, _, e, _ => by cases e
theorem keys_len {α β γ : Type} {ds : List (D × γ)} {kvs : List (α × β)} {f : α → D} (e : ds.map (·.1) = kvs.map fun p => f p.1) : kvs.length = ds.length := by
  have := congrArg List.length e
  simpa using this.symm
theorem cr_len : CallR X (.builtin "len") (rB1 X.K .len) := by
  intro pins s σ H xs us Q I r hh
  obtain ⟨O, x, d, rs, rfl, h, e, q⟩ := hh
  have vi : ∀ {n : Int}, rs = (false, .int n) → Q (.int n) H := fun {n} z => by subst z; exact q _ H (.val (.int n)) (fun z => nomatch z)
  cases d with
  | list ys =>
    obtain ⟨a, zs, rfl, ha, ra⟩ := h.list
    have e : some ((false, PyData.int ys.length) : Rs) = some rs := e
    exact call_len pins s σ H _ us Q I r ⟨_, _, rfl, .inl ⟨zs, .of ha, rfl⟩, vi (by cases e; rw [ra.length])⟩
  | tuple ys =>
    obtain ⟨a, zs, rfl, ha, ra⟩ := h.tup
    have e : some ((false, PyData.int ys.length) : Rs) = some rs := e
    exact call_len pins s σ H _ us Q I r ⟨_, _, rfl, .inr ⟨zs, .of ha, rfl⟩, vi (by cases e; rw [ra.length])⟩
  | str z =>
    obtain rfl := h.str
    have e : (if z.length ≤ sizeLine then some z.length else none).map (fun n : Nat => ((false, .int (n : Int)) : Rs)) = some rs := e
    split at e
    · rename_i hz
      exact call_len pins s σ H _ us Q I r ⟨_, _, rfl, ⟨hz, rfl⟩, vi (by cases e; rfl)⟩
    · cases e
  | dict ds =>
    have e : (lenD (.dict ds)).map (fun n : Nat => ((false, .int (n : Int)) : Rs)) = some rs := e
    obtain ⟨n, en, rfl⟩ := Option.map_eq_some_iff.mp e
    unfold lenD at en
    cases z : scrOf ds with
    | some ys =>
      have en : some ys.length = some n := by simpa only [z] using en
      cases en
      have ed : ds = [(.none, .list ys)] := by
        unfold scrOf at z
        split at z
        · cases z; rfl
        · cases z
      subst ed
      obtain ⟨a, zs, rfl, ha, ra⟩ := h.scr
      exact call_len pins s σ H _ us Q I r ⟨_, _, rfl, .inl ⟨zs, ha.sq, rfl⟩, vi (by rw [ra.length])⟩
    | none =>
      have en : (if dOk ds = true then some ds.length else none) = some n := by simpa only [z] using en
      split at en
      · rename_i ok
        cases en
        obtain ⟨a, u, rfl, ru, c⟩ := h.dict ok
        obtain ⟨w, rfl, rx⟩ := vals1 r
        obtain rfl : w = .ref a := rx
        cases c with
        | @dk kvs _ e1 _ =>
          exact d_len I ru.rd fun t s' I' => ⟨.int kvs.length, H, I', ⟨t, rfl⟩, vi (by rw [keys_len e1])⟩
        | @dt kvs _ e1 _ =>
          obtain ⟨z, hd, ys, rel, dd⟩ := dt_rd I.hok ru.rd
          have hl : kvs.length = ys.length := Paired.length rel
          refine call_len_dictH hd dd (by rw [← hl]; rw [sizeLine_eq] at z; omega) ?_
          rw [← hl]
          exact ⟨.int kvs.length, H, I.tok _, ⟨_, rfl⟩, vi (by rw [keys_len (f := fun q : List Key => PyData.tuple (q.map keyD)) e1])⟩
      · cases en
  | none => cases e
  | bool _ => cases e
  | int _ => cases e
theorem boolsD_L {d : D} {x : V} {bs : List Bool} (h : Rq K O H x d) (e : (listOf d).bind boolsD = some bs) : ∃ a, x = .ref a ∧ SqL K H a (bs.map V.bl) := by
  cases d with
  | list ys =>
    obtain ⟨a, zs, rfl, ha, ra⟩ := h.list
    exact ⟨a, rfl, .of (by rw [ha, bools_of e ra])⟩
  | _ => cases e
theorem intsD_L {d : D} {x : V} {bs : List Int} (h : Rq K O H x d) (e : (listOf d).bind intsD = some bs) : ∃ a, x = .ref a ∧ SqL K H a (bs.map V.int) := by
  cases d with
  | list ys =>
    obtain ⟨a, zs, rfl, ha, ra⟩ := h.list
    exact ⟨a, rfl, .of (by rw [ha, ints_of e ra])⟩
  | _ => cases e
theorem bind_map {α β γ : Type} {o : Option α} {f : α → Option β} {g : β → γ} {r : γ} (h : (o.bind fun x => (f x).map g) = some r) : ∃ b, o.bind f = some b ∧ g b = r := by
  cases o with
  | none => cases h
  | some x => exact Option.map_eq_some_iff.mp h
theorem cr_allM (hc : X.calm = true) : CallR X (.builtin "all") (rB1 X.K .all) := by
  intro pins s σ H xs us Q I r hh
  obtain ⟨O, x, d, rs, rfl, h, e, q⟩ := hh
  obtain ⟨bs, e', rfl⟩ := bind_map (f := boolsD) (g := fun bs => ((false, .bool (bs.all id)) : Rs)) e
  obtain ⟨a, rfl, hl⟩ := boolsD_L h e'
  exact cr_all hc pins s σ H _ us Q I r ⟨a, bs, rfl, hl, q _ H (.val (.bl _)) (fun z => nomatch z)⟩
theorem cr_anyM (hc : X.calm = true) : CallR X (.builtin "any") (rB1 X.K .any) := by
  intro pins s σ H xs us Q I r hh
  obtain ⟨O, x, d, rs, rfl, h, e, q⟩ := hh
  obtain ⟨bs, e', rfl⟩ := bind_map (f := boolsD) (g := fun bs => ((false, .bool (bs.any id)) : Rs)) e
  obtain ⟨a, rfl, hl⟩ := boolsD_L h e'
  exact cr_any hc pins s σ H _ us Q I r ⟨a, bs, rfl, hl, q _ H (.val (.bl _)) (fun z => nomatch z)⟩
theorem cr_sumM (hc : X.calm = true) : CallR X (.builtin "sum") (rB1 X.K .sum) := by
  intro pins s σ H xs us Q I r hh
  obtain ⟨O, x, d, rs, rfl, h, e, q⟩ := hh
  obtain ⟨bs, e', rfl⟩ := bind_map (f := intsD) (g := fun ns => ((false, .int ns.sum) : Rs)) e
  obtain ⟨a, rfl, hl⟩ := intsD_L h e'
  exact cr_sum hc pins s σ H _ us Q I r ⟨a, bs, rfl, hl, q _ H (.val (.int _)) (fun z => nomatch z)⟩
theorem foldMax : ∀ (l : List Int) (n : Int), (l.foldl (fun a b => if a < b then b else a) n = n ∨ l.foldl (fun a b => if a < b then b else a) n ∈ l) ∧ n ≤ l.foldl (fun a b => if a < b then b else a) n ∧ ∀ y ∈ l, y ≤ l.foldl (fun a b => if a < b then b else a) n
  | [], n => ⟨.inl rfl, Int.le_refl _, fun _ h => nomatch h⟩
  | b :: l, n => by
    obtain ⟨h1, h2, h3⟩ := foldMax l (if n < b then b else n)
    rw [List.foldl_cons]
    refine ⟨?_, ?_, fun y hy => ?_⟩
    · rcases h1 with h | h
      · rw [h]
        by_cases z : n < b
        · rw [if_pos z]; exact .inr List.mem_cons_self
        · rw [if_neg z]; exact .inl rfl
      · exact .inr (List.mem_cons_of_mem _ h)
    · refine Int.le_trans ?_ h2
      split <;> omega
    · rcases List.mem_cons.mp hy with rfl | hy
      · refine Int.le_trans ?_ h2
        split <;> omega
      · exact h3 y hy
theorem foldMin : ∀ (l : List Int) (n : Int), (l.foldl (fun a b => if b < a then b else a) n = n ∨ l.foldl (fun a b => if b < a then b else a) n ∈ l) ∧ l.foldl (fun a b => if b < a then b else a) n ≤ n ∧ ∀ y ∈ l, l.foldl (fun a b => if b < a then b else a) n ≤ y
  | [], n => ⟨.inl rfl, Int.le_refl _, fun _ h => nomatch h⟩
  | b :: l, n => by
    obtain ⟨h1, h2, h3⟩ := foldMin l (if b < n then b else n)
    rw [List.foldl_cons]
    refine ⟨?_, ?_, fun y hy => ?_⟩
    · rcases h1 with h | h
      · rw [h]
        by_cases z : b < n
        · rw [if_pos z]; exact .inr List.mem_cons_self
        · rw [if_neg z]; exact .inl rfl
      · exact .inr (List.mem_cons_of_mem _ h)
    · refine Int.le_trans h2 ?_
      split <;> omega
    · rcases List.mem_cons.mp hy with rfl | hy
      · refine Int.le_trans h2 ?_
        split <;> omega
      · exact h3 y hy
theorem bind_map2 {α β γ δ : Type} {o : Option α} {f : α → Option β} {g : β → Option γ} {k : γ → δ} {r : δ} (h : (o.bind fun x => (f x).bind fun y => (g y).map k) = some r) : ∃ b c, o.bind f = some b ∧ g b = some c ∧ k c = r := by
  cases o with
  | none => cases h
  | some x =>
    cases z : f x with
    | none =>
      have h : ((f x).bind fun y => (g y).map k) = some r := h
      rw [z] at h; cases h
    | some b =>
      have h : ((f x).bind fun y => (g y).map k) = some r := h
      rw [z] at h
      obtain ⟨c, h1, h2⟩ := Option.map_eq_some_iff.mp (show (g b).map k = some r from h)
      exact ⟨b, c, z, h1, h2⟩
theorem cr_maxM (hc : X.calm = true) : CallR X (.builtin "max") (rB1 X.K .max) := by
  intro pins s σ H xs us Q I r hh
  obtain ⟨O, x, d, rs, rfl, h, e, q⟩ := hh
  obtain ⟨bs, n, e', en, rfl⟩ := bind_map2 (f := intsD) (g := maxL) (k := fun n => ((false, .int n) : Rs)) e
  obtain ⟨a, rfl, hl⟩ := intsD_L h e'
  cases bs with
  | nil => cases en
  | cons b bs =>
    obtain rfl := Option.some.inj en
    obtain ⟨f1, f2, f3⟩ := foldMax bs b
    refine cr_max hc pins s σ H _ us Q I r ⟨a, b :: bs, rfl, hl, by simp, fun m hm hle => ?_⟩
    have e1 := hle b List.mem_cons_self
    have e2 : bs.foldl (fun a b => if a < b then b else a) b ≤ m := by
      rcases f1 with z | z
      · rw [z]; exact e1
      · exact hle _ (List.mem_cons_of_mem _ z)
    have e3 : m ≤ bs.foldl (fun a b => if a < b then b else a) b := by
      rcases List.mem_cons.mp hm with rfl | hm
      · exact f2
      · exact f3 m hm
    have em : m = bs.foldl (fun a b => if a < b then b else a) b := by omega
    subst em
    exact q _ H (.val (.int _)) (fun z => nomatch z)
theorem cr_minM (hc : X.calm = true) : CallR X (.builtin "min") (rB1 X.K .min) := by
  intro pins s σ H xs us Q I r hh
  obtain ⟨O, x, d, rs, rfl, h, e, q⟩ := hh
  obtain ⟨bs, n, e', en, rfl⟩ := bind_map2 (f := intsD) (g := minL) (k := fun n => ((false, .int n) : Rs)) e
  obtain ⟨a, rfl, hl⟩ := intsD_L h e'
  cases bs with
  | nil => cases en
  | cons b bs =>
    obtain rfl := Option.some.inj en
    obtain ⟨f1, f2, f3⟩ := foldMin bs b
    refine cr_min hc pins s σ H _ us Q I r ⟨a, b :: bs, rfl, hl, by simp, fun m hm hle => ?_⟩
    have e1 := hle b List.mem_cons_self
    have e2 : m ≤ bs.foldl (fun a b => if b < a then b else a) b := by
      rcases f1 with z | z
      · rw [z]; exact e1
      · exact hle _ (List.mem_cons_of_mem _ z)
    have e3 : bs.foldl (fun a b => if b < a then b else a) b ≤ m := by
      rcases List.mem_cons.mp hm with rfl | hm
      · exact f2
      · exact f3 m hm
    have em : m = bs.foldl (fun a b => if b < a then b else a) b := by omega
    subst em
    exact q _ H (.val (.int _)) (fun z => nomatch z)
theorem cr_tupleM : CallR X (.type "tuple") (rB1 X.K .tuple) := by
  intro pins s σ H xs us Q I r hh
  obtain ⟨O, x, d, rs, rfl, h, e, q⟩ := hh
  obtain ⟨t, e', rfl⟩ := Option.map_eq_some_iff.mp (show (tupleD d).map (fun t => ((false, t) : Rs)) = some rs from e)
  clear e
  have e := e'
  clear e'
  cases d with
  | list ys =>
    cases e
    obtain ⟨a, zs, rfl, ha, ra⟩ := h.list
    exact call_tuple_of pins s σ H _ us Q I r ⟨a, zs, rfl, .inl ⟨.of ha, fun l hl => q _ _ (.tup hl ra) (fun z => nomatch z)⟩⟩
  | tuple ys =>
    cases e
    obtain ⟨a, zs, rfl, ha, ra⟩ := h.tup
    exact call_tuple_of pins s σ H _ us Q I r ⟨a, zs, rfl, .inr ⟨.of ha, q _ _ (.val (.tup ha ra)) (fun z => nomatch z)⟩⟩
  | _ => cases e
theorem keyD_list {kvs : List (Key × V)} : RpL K O H (kvs.map fun p => kV p.1) (kvs.map fun p => keyD p.1) := by
  induction kvs with
  | nil => exact .nil
  | cons p ps ih => exact .cons (kV_rp p.1) ih
theorem keyT_list {kvs : List (List Key × V)} {bs : List Addr} (h : IsKeys H kvs bs) : RpL K O H (bs.map V.ref) (kvs.map fun p => .tuple (p.1.map keyD)) := by
  unfold IsKeys at h
  induction h with
  | nil => exact .nil
  | @cons p b ps bs hp _ ih =>
    refine .cons (.tup hp ?_) ih
    generalize p.1 = ks
    induction ks with
    | nil => exact .nil
    | cons k ks ik => exact .cons (kV_rp k) ik
theorem cr_listM (hc : X.calm = true) : CallR X (.type "list") (rB1 X.K .list) := by
  intro pins s σ H xs us Q I r hh
  obtain ⟨O, x, d, rs, rfl, h, e, q⟩ := hh
  obtain ⟨t, e', rfl⟩ := Option.map_eq_some_iff.mp (show (listD d).map (fun t => ((true, t) : Rs)) = some rs from e)
  clear e
  have e := e'
  clear e'
  cases d with
  | list ys =>
    cases e
    obtain ⟨a, zs, rfl, ha, ra⟩ := h.list
    exact call_list_of pins s σ H _ us Q I r ⟨a, zs, rfl, .inl (.of ha), fun l hl => q _ _ (.new hl (.lst ra)) (fun _ _ => upd_new hl)⟩
  | tuple ys =>
    cases e
    obtain ⟨a, zs, rfl, ha, ra⟩ := h.tup
    exact call_list_of pins s σ H _ us Q I r ⟨a, zs, rfl, .inr (.of ha), fun l hl => q _ _ (.new hl (.lst ra)) (fun _ _ => upd_new hl)⟩
  | dict ds =>
    have e : (if dOk ds = true then some (PyData.list (ds.map (·.1))) else none) = some t := e
    split at e
    · rename_i ok
      cases e
      obtain ⟨a, u, rfl, ru, c⟩ := h.dict ok
      cases c with
      | @dk kvs _ e1 _ => exact call_listD hc pins s σ H _ us Q I r ⟨a, kvs, rfl, ru.rd, fun p hp => q _ _ (.new hp (.lst (by rw [e1]; exact keyD_list))) (fun _ _ => upd_new hp)⟩
      | @dt kvs _ e1 _ => exact call_list_dT hc pins s σ H _ us Q I r ⟨a, kvs, rfl, ru.rd, fun p bs hp hk => q _ _ (.new hp (.lst (by rw [e1]; exact keyT_list hk))) (fun _ _ => upd_new hp)⟩
    · cases e
  | _ => cases e
theorem cr_intM : CallR X (.type "int") (rB1 X.K .int) := by
  intro pins s σ H xs us Q I r hh
  obtain ⟨O, x, d, rs, rfl, h, e, q⟩ := hh
  obtain ⟨t, e', rfl⟩ := Option.map_eq_some_iff.mp (show (intD d).map (fun t => ((false, t) : Rs)) = some rs from e)
  clear e
  have e := e'
  clear e'
  cases d with
  | int i =>
    cases e
    obtain rfl := h.int
    exact call_int1 pins s σ H _ us Q I r (.inl ⟨i, rfl, q _ _ (.val (.int i)) (fun z => nomatch z)⟩)
  | bool b =>
    cases e
    obtain rfl := h.bool
    exact call_int1 pins s σ H _ us Q I r (.inr ⟨b, rfl, q _ _ (.val (.int _)) (fun z => nomatch z)⟩)
  | _ => cases e
end
end Mi
end
section
namespace Mi
open PySem PySem.Spec L2
structure ME (X : Cx) (R : Rt) (W : WX) (e : Expr) (c : CE) : Prop where
  pe : PE X e (tE R W c)
  pt : PT X e (tT R W c)
section
variable {X : Cx} {R : Rt} {W : WX} {e a b : Expr} {c ca cb cc : CE} {pos : Pos}
theorem tru_of {K : PySem.W.Frag} {H₀ : Hp} {O : Addr → Prop} {H : Hp} {ρ : Env} {σ : L2.St} {r : Rs} {v : V} {b : Bool} (h : RR K H₀ O H ρ σ r v) (e : tru r.2 = some b) : r.2 = .bool b ∧ v = .bl b := by
  obtain ⟨fl, d⟩ := r
  cases d with
  | bool b' =>
    cases e
    have h : Rp K O H v (.bool b) := by
      unfold RR at h
      rw [if_neg (by simp [isC])] at h
      exact h
    exact ⟨rfl, h.rq.bool⟩
  | _ => cases e
theorem tT_tE {σ : L2.St} {H : Hp} {Q : Bool → Hp → Prop} (h : tT R W c σ H Q) : tE R W c σ H (fun x H' => ∃ k, x = .bl k ∧ Q k H') := by
  obtain ⟨O, ρ, S, A⟩ := h
  refine ⟨O, ρ, S, A.imp fun r ρ1 O1 H1 _ _ ⟨b, eb, q⟩ v hv => ⟨b, (tru_of hv eb).2, q⟩⟩
theorem ME.of {t : TE} (h : PE X e t) (k : ∀ σ H Q, tE R W c σ H Q → t σ H Q) (he : ∀ whole, isTrue e X.env whole = (do let v ← whole; standAt e.pos; holding [v] (truthy v))) : ME X R W e c :=
  ⟨pe_wk h k, pt_wk (pt_val h he) fun σ H Q q => k σ H _ (tT_tE q)⟩
theorem ME.of' (h : PE X e (tE R W c)) (he : ∀ whole, isTrue e X.env whole = (do let v ← whole; standAt e.pos; holding [v] (truthy v))) : ME X R W e c := ME.of h (fun _ _ _ q => q) he
theorem tE_val {σ : L2.St} {H : Hp} {Q : V → Hp → Prop} {O : Addr → Prop} {ρ : Env} (S : SR R.K O H ρ σ)
    (A : Ans R W σ O H ρ (evE R.cf c ρ) (fun r ρ1 O1 H1 => ∀ O', SR R.K O' H1 ρ1 σ → Step O H ρ σ O' H1 ρ1 σ → ∀ v, Rp R.K O' H1 v r.2 → Q v H1)) : tE R W c σ H Q := by
  refine ⟨O, ρ, S, A.imp fun r ρ1 O1 H1 S1 T1 q v hv => ?_⟩
  obtain ⟨O', S', T', rp, _⟩ := give S1 T1 hv
  exact q O' S' T' v rp
theorem res2 {α : Type} {o1 o2 : Opd} {ρ : Env} {f : D → D → Option α} {r : α} (h : ((res ρ o1).bind fun x => (res ρ o2).bind fun y => f x y) = some r) : ∃ d1 d2, res ρ o1 = some d1 ∧ res ρ o2 = some d2 ∧ f d1 d2 = some r := by
  cases e1 : res ρ o1 with
  | none => rw [e1] at h; cases h
  | some d1 =>
    rw [e1] at h
    cases e2 : res ρ o2 with
    | none => rw [e2] at h; cases h
    | some d2 =>
      rw [e2] at h
      exact ⟨d1, d2, rfl, rfl, h⟩
theorem le_cmp {op : CmpOp} (hK : X.K = R.K) {σ : L2.St} {H : Hp} {Q : VK} (h : tE R W (.cmp op ca cb) σ H Q) : tOp (rCmp X.K (cmpOp op)) (tO R W ca) (tO R W cb) σ H Q := by
  obtain ⟨O, ρ, S, A⟩ := h
  rw [evE] at A
  refine ⟨O, ρ, S, A.bind fun o1 ρ1 O1 H1 S1 T1 A1 x hx => ?_⟩
  refine ⟨O1, ρ1, S1, (A1.rebase T1).bind fun o2 ρ2 O2 H2 S2 T2 A2 y hy => ?_⟩
  obtain ⟨r, e, A3⟩ := A2.lift
  obtain ⟨d1, d2, e1, e2, e3⟩ := res2 (f := fun x y => (cmpOp op x y).map fun b => ((false, PyData.bool b) : Rs)) e
  obtain ⟨b, e4, rfl⟩ := Option.map_eq_some_iff.mp e3
  rw [hK]
  exact ⟨O2, d1, d2, b, (hx.mono (S1.mono T2)).rq S2 e1, hy.rq S2 e2, e4, A3 O2 H2 S2 T2 _ (RR.val (.bl b))⟩
theorem me_cmp {op : CmpOp} (hK : X.K = R.K) (ho : OpR X (compareOp op) (rCmp X.K (cmpOp op))) (hm : behindInMarks op b = false) (ha : PE X a (tO R W ca)) (hb : PE X b (tO R W cb)) : ME X R W (.Compare a [op] [b] pos) (.cmp op ca cb) :=
  ⟨pe_wk (pe_cmpR ho ha hb hm) fun _ _ _ h => le_cmp hK h, pt_wk (pt_cmpR ho ha hb hm) fun σ H Q h => le_cmp hK (tT_tE h)⟩
theorem le_isin {ng : Bool} (hK : X.K = R.K) {σ : L2.St} {H : Hp} {Q : VK} (h : tE R W (.isin ng ca cb) σ H Q) : tOp (rIsin X.K ng) (tE R W ca) (tO R W cb) σ H Q := by
  obtain ⟨O, ρ, S, A⟩ := h
  rw [evE] at A
  refine tE_val S (A.bind fun r1 ρ1 O1 H1 S1 T1 A1 O1 S1 T1 x hx => ?_)
  refine ⟨O1, ρ1, S1, (A1.rebase T1).bind fun o2 ρ2 O2 H2 S2 T2 A2 y hy => ?_⟩
  obtain ⟨r, e, A3⟩ := A2.lift
  cases e1 : resW ρ2 o2 with
  | none => rw [e1] at e; cases e
  | some d2 =>
    rw [e1] at e
    obtain ⟨b, e4, rfl⟩ := Option.map_eq_some_iff.mp (show (inOp r1.2 d2).map (fun b => ((false, PyData.bool (if ng = true then !b else b)) : Rs)) = some r from e)
    rw [hK]
    refine ⟨O2, r1.2, d2, b, hx.mono (S1.mono T2), ?_, e4, A3 O2 H2 S2 T2 _ (RR.val (.bl _))⟩
    cases o2 with
    | wr ds =>
      cases e1
      obtain ⟨a, xs, rfl, h1, h2⟩ := hy
      exact .inr ⟨a, xs, ds, rfl, h1, h2, rfl⟩
    | val d => exact .inl (OpR'.rq S2 hy e1)
    | «at» i => exact .inl (OpR'.rq S2 hy e1)
theorem me_in (hK : X.K = R.K) (hu : X.A.units + 200 < cLine) (hm : behindInMarks .In b = false) (ha : PE X a (tE R W ca)) (hb : PE X b (tO R W cb)) : ME X R W (.Compare a [.In] [b] pos) (.isin false ca cb) :=
  ⟨pe_wk (pe_cmpR (op_isin hu) ha hb hm) fun _ _ _ h => le_isin hK h, pt_wk (pt_cmpR (op_isin hu) ha hb hm) fun σ H Q h => le_isin hK (tT_tE h)⟩
theorem me_notin (hK : X.K = R.K) (hu : X.A.units + 200 < cLine) (hm : behindInMarks .NotIn b = false) (ha : PE X a (tE R W ca)) (hb : PE X b (tO R W cb)) : ME X R W (.Compare a [.NotIn] [b] pos) (.isin true ca cb) :=
  ⟨pe_wk (pe_cmpR (op_notin hu) ha hb hm) fun _ _ _ h => le_isin hK h, pt_wk (pt_cmpR (op_notin hu) ha hb hm) fun σ H Q h => le_isin hK (tT_tE h)⟩
theorem OpR'.isNone {K : PySem.W.Frag} {O : Addr → Prop} {H : Hp} {ρ : Env} {σ : L2.St} {o : Opd} {v : V} {d : D} (S : SR K O H ρ σ) (h : OpR' K O H σ o v) (e : res ρ o = some d) : decide (v = .non) = (match d with | .none => true | _ => false) := by
  have q := h.rq S e
  cases d with
  | none => rw [q.none]; rfl
  | _ => exact decide_eq_false fun z => nomatch q.isNone z
theorem le_isn {ng : Bool} {σ : L2.St} {H : Hp} {Q : VK} (h : tE R W (.isn ng ca) σ H Q) : tO R W ca σ H (fun x H1 => Q (.bl (if ng = true then !decide (x = .non) else decide (x = .non))) H1) := by
  obtain ⟨O, ρ, S, A⟩ := h
  rw [evE] at A
  refine ⟨O, ρ, S, A.bind fun o1 ρ1 O1 H1 S1 T1 A1 x hx => ?_⟩
  obtain ⟨r, e, A3⟩ := A1.lift
  obtain ⟨d, e1, rfl⟩ := Option.map_eq_some_iff.mp e
  rw [hx.isNone S1 e1]
  refine A3 O1 H1 S1 T1 _ (RR.val ?_)
  cases d <;> cases ng <;> exact .bl _
theorem me_is {j : Nat} {pos' : Pos} (ha : PE X a (tO R W ca)) : ME X R W (.Compare a [.Is] [.Constant .none j pos'] pos) (.isn false ca) :=
  ⟨pe_wk (pe_cmp (pc_isN ha) (by rfl)) fun _ _ _ h => le_isn h, pt_wk (pt_cmp (pc_isN ha) (by rfl)) fun σ H Q h => le_isn (tT_tE h)⟩
theorem me_isnot {j : Nat} {pos' : Pos} (ha : PE X a (tO R W ca)) : ME X R W (.Compare a [.IsNot] [.Constant .none j pos'] pos) (.isn true ca) :=
  ⟨pe_wk (pe_cmp (pc_notN ha) (by rfl)) fun _ _ _ h => le_isn h, pt_wk (pt_cmp (pc_notN ha) (by rfl)) fun σ H Q h => le_isn (tT_tE h)⟩
theorem le_chn {op op' : CmpOp} (hK : X.K = R.K) {σ : L2.St} {H : Hp} {Q : VK} (h : tE R W (.chn op op' ca cb cc) σ H Q) : tChain (rCmp X.K (cmpOp op)) (rCmp X.K (cmpOp op')) (tE R W ca) (tE R W cb) (tE R W cc) σ H Q := by
  obtain ⟨O, ρ, S, A⟩ := h
  rw [evE] at A
  refine tE_val S (A.bind fun r1 ρ1 O1 H1 S1 T1 A1 O1 S1 T1 x hx => ?_)
  refine tE_val S1 ((A1.rebase T1).bind fun r2 ρ2 O2 H2 S2 T2 A2 O2 S2 T2 y hy => ?_)
  obtain ⟨b, e, A3⟩ := A2.liftB
  have hx2 := hx.mono (S1.mono T2)
  rw [hK]
  refine ⟨O2, r1.2, r2.2, b, hx2.rq, hy.rq, e, b, rfl, ?_⟩
  cases b with
  | false =>
    rw [if_neg (by decide)] at A3 ⊢
    exact A3 O2 H2 S2 T2 _ (RR.val (.bl false))
  | true =>
    rw [if_pos rfl] at A3 ⊢
    refine tE_val S2 ((A3.rebase T2).bind fun r3 ρ3 O3 H3 S3 T3 A4 O3 S3 T3 z hz => ?_)
    obtain ⟨r, e', A5⟩ := A4.lift
    obtain ⟨b', e4, rfl⟩ := Option.map_eq_some_iff.mp e'
    exact ⟨O3, r2.2, r3.2, b', (hy.mono (S2.mono T3)).rq, hz.rq, e4, A5 O3 H3 S3 T3 _ (RR.val (.bl b'))⟩
end
end Mi
end
section
namespace Mi
open PySem PySem.Spec L2
section
variable {X : Cx} {R : Rt} {W : WX} {e a b : Expr} {c ca cb cc : CE} {pos : Pos} {es : List Expr}
theorem me_chn {op op' : CmpOp} {d : Expr} {cd : CE} (hK : X.K = R.K) (ho : OpR X (compareOp op) (rCmp X.K (cmpOp op))) (ho' : OpR X (compareOp op') (rCmp X.K (cmpOp op'))) (hm : lastMarks [op, op'] [b, d] = false)
    (ha : PE X a (tE R W ca)) (hb : PE X b (tE R W cb)) (hd : PE X d (tE R W cd)) : ME X R W (.Compare a [op, op'] [b, d] pos) (.chn op op' ca cb cd) :=
  ⟨pe_wk (pe_chain ho ho' ha hb hd hm) fun _ _ _ h => le_chn hK h, pt_wk (pt_chain ho ho' ha hb hd hm) fun σ H Q h => le_chn hK (tT_tE h)⟩
theorem tE_bl {σ : L2.St} {H : Hp} {Q : VK} {O : Addr → Prop} {ρ : Env} {f : Bool → Env → Out Rs} {C : Rs → Env → (Addr → Prop) → Hp → Prop} (S : SR R.K O H ρ σ)
    (A : Ans R W σ O H ρ ((evE R.cf c ρ).bind fun x ρ1 => (Mi.lift (tru x.2) ρ1).bind f) C)
    (k : ∀ t ρ1 O1 H1, SR R.K O1 H1 ρ1 σ → Step O H ρ σ O1 H1 ρ1 σ → Ans R W σ O1 H1 ρ1 (f t ρ1) C → Q (.bl t) H1) : tE R W c σ H Q := by
  refine ⟨O, ρ, S, A.bind fun r ρ1 O1 H1 S1 T1 A1 v hv => ?_⟩
  obtain ⟨t, et, A2⟩ := A1.liftB
  obtain ⟨_, rfl⟩ := tru_of hv et
  exact k t ρ1 O1 H1 S1 T1 (A2.rebase T1)
theorem tT_bl {σ : L2.St} {H : Hp} {Q : Bool → Hp → Prop} {O : Addr → Prop} {ρ : Env} {f : Bool → Env → Out Rs} {C : Rs → Env → (Addr → Prop) → Hp → Prop} (S : SR R.K O H ρ σ)
    (A : Ans R W σ O H ρ ((evE R.cf c ρ).bind fun x ρ1 => (Mi.lift (tru x.2) ρ1).bind f) C)
    (k : ∀ t ρ1 O1 H1, SR R.K O1 H1 ρ1 σ → Step O H ρ σ O1 H1 ρ1 σ → Ans R W σ O1 H1 ρ1 (f t ρ1) C → Q t H1) : tT R W c σ H Q := by
  refine ⟨O, ρ, S, A.bind fun r ρ1 O1 H1 S1 T1 A1 => ?_⟩
  obtain ⟨t, et, A2⟩ := A1.liftB
  exact ⟨t, et, k t ρ1 O1 H1 S1 T1 (A2.rebase T1)⟩
theorem Ans.okb {σ : L2.St} {O1 : Addr → Prop} {H H1 : Hp} {ρ1 : Env} {t : Bool} {Q : VK}
    (A : Ans R W σ O1 H1 ρ1 (.ok (false, .bool t) ρ1) (fun r ρ' O' H' => ∀ v, RR R.K H O' H' ρ' σ r v → Q v H')) (S : SR R.K O1 H1 ρ1 σ) : Q (.bl t) H1 :=
  A O1 H1 S Step.refl _ (RR.val (.bl t))
theorem Ans.okt {σ : L2.St} {O1 : Addr → Prop} {H1 : Hp} {ρ1 : Env} {t : Bool} {Q : Bool → Hp → Prop}
    (A : Ans R W σ O1 H1 ρ1 (.ok (false, .bool t) ρ1) (fun r _ _ H' => ∃ b, tru r.2 = some b ∧ Q b H')) (S : SR R.K O1 H1 ρ1 σ) : Q t H1 := by
  obtain ⟨b, eb, q⟩ := A O1 H1 S Step.refl
  cases eb
  exact q
structure MW (X : Cx) (R : Rt) (W : WX) (e : Expr) (c : CE) : Prop where
  pe : PE X e (tE R W c)
  pw : PW X e (tT R W c)
theorem MW.me (h : MW X R W e c) : ME X R W e c := ⟨h.pe, h.pw.pt⟩
theorem mw_and1 (h : ME X R W a ca) : MW X R W (.BoolOp .And [a] pos) ca := ⟨pe_one h.pe, pw_and1 h.pt⟩
theorem mw_or1 (h : ME X R W a ca) : MW X R W (.BoolOp .Or [a] pos) ca := ⟨pe_one h.pe, pw_or1 h.pt⟩
theorem pw_wk {t t' : TT} (h : PW X e t) (k : ∀ σ H Q, t' σ H Q → t σ H Q) : PW X e t' := ⟨fun wh pins s σ H Q I q => h.run wh pins s σ H Q I (k σ H Q q)⟩
theorem mw_and (ha : ME X R W a ca) (hb : MW X R W (.BoolOp .And (b :: es) pos) cb) : MW X R W (.BoolOp .And (a :: b :: es) pos) (.and ca cb) := by
  refine ⟨pe_wk (pe_and ha.pe hb.pe) fun σ H Q ⟨O, ρ, S, A⟩ => ?_, pw_wk (pw_and ha.pt hb.pw) fun σ H Q ⟨O, ρ, S, A⟩ => ?_⟩
  · rw [evE] at A
    refine tE_bl S A fun t ρ1 O1 H1 S1 T1 A1 => ⟨t, rfl, ?_⟩
    cases t with
    | false =>
      rw [if_neg (by decide)] at A1 ⊢
      exact A1.okb S1
    | true =>
      rw [if_pos rfl] at A1 ⊢
      exact tE_bl S1 A1 fun u ρ2 O2 H2 S2 T2 A2 => A2.okb S2
  · rw [evE] at A
    refine tT_bl S A fun t ρ1 O1 H1 S1 T1 A1 => ?_
    cases t with
    | false =>
      rw [if_neg (by decide)] at A1 ⊢
      exact A1.okt S1
    | true =>
      rw [if_pos rfl] at A1 ⊢
      exact tT_bl S1 A1 fun u ρ2 O2 H2 S2 T2 A2 => A2.okt S2
theorem mw_or (ha : ME X R W a ca) (hb : MW X R W (.BoolOp .Or (b :: es) pos) cb) : MW X R W (.BoolOp .Or (a :: b :: es) pos) (.or ca cb) := by
  refine ⟨pe_wk (pe_or ha.pe hb.pe) fun σ H Q ⟨O, ρ, S, A⟩ => ?_, pw_wk (pw_or ha.pt hb.pw) fun σ H Q ⟨O, ρ, S, A⟩ => ?_⟩
  · rw [evE] at A
    refine tE_bl S A fun t ρ1 O1 H1 S1 T1 A1 => ⟨t, rfl, ?_⟩
    cases t with
    | true =>
      rw [if_pos rfl] at A1 ⊢
      exact A1.okb S1
    | false =>
      rw [if_neg (by decide)] at A1 ⊢
      exact tE_bl S1 A1 fun u ρ2 O2 H2 S2 T2 A2 => A2.okb S2
  · rw [evE] at A
    refine tT_bl S A fun t ρ1 O1 H1 S1 T1 A1 => ?_
    cases t with
    | true =>
      rw [if_pos rfl] at A1 ⊢
      exact A1.okt S1
    | false =>
      rw [if_neg (by decide)] at A1 ⊢
      exact tT_bl S1 A1 fun u ρ2 O2 H2 S2 T2 A2 => A2.okt S2
theorem me_not (ha : ME X R W a ca) : ME X R W (.UnaryOp .Not a pos) (.not ca) := by
  refine ⟨pe_wk (pe_not ha.pe) fun σ H Q ⟨O, ρ, S, A⟩ => ?_, pt_wk (pt_not ha.pt) fun σ H Q ⟨O, ρ, S, A⟩ => ?_⟩
  · rw [evE] at A
    refine ⟨O, ρ, S, A.bind fun r ρ1 O1 H1 S1 T1 A1 v hv => ?_⟩
    obtain ⟨t, et, A2⟩ := A1.lift
    obtain ⟨b, eb, rfl⟩ := Option.map_eq_some_iff.mp et
    obtain ⟨_, rfl⟩ := tru_of hv eb
    exact ⟨b, rfl, A2 O1 H1 S1 T1 _ (RR.val (.bl _))⟩
  · rw [evE] at A
    refine ⟨O, ρ, S, A.bind fun r ρ1 O1 H1 S1 T1 A1 => ?_⟩
    obtain ⟨t, et, A2⟩ := A1.lift
    obtain ⟨b, eb, rfl⟩ := Option.map_eq_some_iff.mp et
    obtain ⟨b', eb', q⟩ := A2 O1 H1 S1 T1
    cases eb'
    exact ⟨b, eb, q⟩
theorem tE_reb {σ : L2.St} {H H' : Hp} {O O' : Addr → Prop} {ρ ρ' : Env} {Q : VK} {o : Out Rs} (A : Ans R W σ O' H' ρ' o (fun r ρ1 O1 H1 => ∀ v, RR R.K H O1 H1 ρ1 σ r v → Q v H1)) (T : Step O H ρ σ O' H' ρ' σ) :
    Ans R W σ O' H' ρ' o (fun r ρ1 O1 H1 => ∀ v, RR R.K H' O1 H1 ρ1 σ r v → Q v H1) :=
  A.imp fun r ρ1 O1 H1 _ _ q v hv => q v (hv.up fun _ z => T.none z)
theorem me_ite (hc : PT X e (tT R W c)) (ha : PE X a (tE R W ca)) (hb : PE X b (tE R W cb)) : PE X (.IfExp e a b pos) (tE R W (.ite c ca cb)) := by
  refine pe_wk (pe_ifExp hc ha hb) fun σ H Q ⟨O, ρ, S, A⟩ => ?_
  rw [evE] at A
  refine tT_bl S A fun t ρ1 O1 H1 S1 T1 A1 => ?_
  cases t with
  | true =>
    rw [if_pos rfl] at A1 ⊢
    exact ⟨O1, ρ1, S1, tE_reb A1 T1⟩
  | false =>
    rw [if_neg (by decide)] at A1 ⊢
    exact ⟨O1, ρ1, S1, tE_reb A1 T1⟩
theorem me_neg (ha : PE X a (tE R W ca)) : ME X R W (.UnaryOp .USub a pos) (.neg ca) := by
  refine ME.of (pe_un un_neg ha) (fun σ H Q ⟨O, ρ, S, A⟩ => ?_) (by intro _; rfl)
  rw [evE] at A
  refine tE_val S (A.bind fun r1 ρ1 O1 H1 S1 T1 A1 O1 S1 T1 x hx => ?_)
  obtain ⟨t, et, A2⟩ := A1.lift
  obtain ⟨i, ei, rfl⟩ := Option.map_eq_some_iff.mp et
  obtain ⟨fl, d⟩ := r1
  cases d with
  | int j =>
    cases ei
    exact ⟨i, hx.rq.int, A2 O1 H1 S1 T1 _ (RR.val (.int _))⟩
  | _ => cases ei
theorem me_idx (hK : X.K = R.K) (hu : X.A.units + 200 < cLine) (hs : PlainIx b) (ha : PE X a (tO R W ca)) (hb : PE X b (tE R W cb)) : ME X R W (.Subscript a b pos) (.idx ca cb) := by
  refine ME.of (pe_ix (ix_idx hu) ha hb hs) (fun σ H Q ⟨O, ρ, S, A⟩ => ?_) (by intro _; rfl)
  rw [evE] at A
  refine ⟨O, ρ, S, A.bind fun o1 ρ1 O1 H1 S1 T1 A1 x hx => ?_⟩
  refine tE_val S1 ((A1.rebase T1).bind fun r2 ρ2 O2 H2 S2 T2 A2 O2 S2 T2 y hy => ?_)
  obtain ⟨r, e, A3⟩ := A2.lift
  cases e1 : res ρ2 o1 with
  | none => rw [e1] at e; cases e
  | some d1 =>
    rw [e1] at e
    obtain ⟨d, ed, rfl⟩ := Option.map_eq_some_iff.mp (show (idxOp d1 r2.2).map (fun d => ((false, d) : Rs)) = some r from e)
    rw [hK]
    exact ⟨O2, d1, r2.2, d, (hx.mono (S1.mono T2)).rq S2 e1, hy, ed, fun v hv => A3 O2 H2 S2 T2 v (RR.val hv)⟩
theorem Ans.done {σ : L2.St} {O O1 : Addr → Prop} {H₀ H H1 H' : Hp} {ρ ρ1 : Env} {r : Rs} {v : V} {Q : V → Hp → Prop}
    (A : Ans R W σ O H ρ (.ok r ρ1) (fun r ρ' O' H' => ∀ v, RR R.K H₀ O' H' ρ' σ r v → Q v H')) (S : SR R.K O1 H1 ρ1 σ) (T : Step O H ρ σ O1 H1 ρ1 σ) (h0 : ∀ a, H a = none → H₀ a = none) (h : Ext R.K O1 H1 r v H') (hf : isC r.2 = true → r.1 = true → H' ≠ H1) : Q v H' := by
  obtain ⟨fl, d⟩ := r
  obtain ⟨O', S', T', rr⟩ := Ext.done S T h hf
  exact A O' H' S' T' v (rr.up h0)
theorem tPart_of {σ : L2.St} {H : Hp} {O : Addr → Prop} {ρ : Env} {Q : Option Int → Hp → Prop} (S : SR R.K O H ρ σ)
    (A : Ans R W σ O H ρ (evE R.cf c ρ) (fun r ρ1 O1 H1 => ∀ O', SR R.K O' H1 ρ1 σ → Step O H ρ σ O' H1 ρ1 σ → ∃ i, asInt r.2 = some i ∧ Q (some i) H1)) : tPart (tE R W c) σ H Q :=
  tE_val S (A.imp fun r ρ1 O1 H1 _ _ q O' S' T' v hv => by
    obtain ⟨i, ei, q1⟩ := q O' S' T'
    obtain ⟨fl, d⟩ := r
    cases d with
    | int j =>
      cases ei
      exact ⟨_, hv.rq.int, q1⟩
    | _ => cases ei)
theorem me_sl0 {p2 : Pos} (hK : X.K = R.K) (ha : PE X a (tO R W ca)) : ME X R W (.Subscript a (.Slice none none none p2) pos) (.sl0 ca) := by
  refine ME.of (pe_slice sl_all ha po_none po_none) (fun σ H Q ⟨O, ρ, S, A⟩ => ?_) (by intro _; rfl)
  rw [evE] at A
  refine ⟨O, ρ, S, A.bind fun o1 ρ1 O1 H1 S1 T1 A1 x hx => ?_⟩
  obtain ⟨r, e, A3⟩ := A1.lift
  obtain ⟨d1, e1, e2⟩ := Option.bind_eq_some_iff.mp e
  rw [hK]
  exact ⟨O1, d1, r, hx.rq S1 e1, e2, fun v H' ex hf => A3.done S1 T1 (fun _ z => z) ex hf⟩
theorem me_sl1 {p2 : Pos} (hK : X.K = R.K) (ha : PE X a (tO R W ca)) (hb : PE X b (tE R W cb)) : ME X R W (.Subscript a (.Slice (some b) none none p2) pos) (.sl1 ca cb) := by
  refine ME.of (pe_slice sl_all ha (po_some hb) po_none) (fun σ H Q ⟨O, ρ, S, A⟩ => ?_) (by intro _; rfl)
  rw [evE] at A
  refine ⟨O, ρ, S, A.bind fun o1 ρ1 O1 H1 S1 T1 A1 x hx => ?_⟩
  refine tPart_of S1 ((A1.rebase T1).bind fun r2 ρ2 O2 H2 S2 T2 A2 O2 S2 T2 => ?_)
  obtain ⟨r, e, A3⟩ := A2.lift
  obtain ⟨d1, e1, e2⟩ := Option.bind_eq_some_iff.mp e
  obtain ⟨i, e3, e4⟩ := Option.bind_eq_some_iff.mp e2
  rw [hK]
  exact ⟨i, e3, O2, d1, r, (hx.mono (S1.mono T2)).rq S2 e1, e4, fun v H' ex hf => A3.done S2 T2 (fun _ z => T1.none z) ex hf⟩
theorem me_sl2 {p2 : Pos} (hK : X.K = R.K) (ha : PE X a (tO R W ca)) (hb : PE X b (tE R W cb)) : ME X R W (.Subscript a (.Slice none (some b) none p2) pos) (.sl2 ca cb) := by
  refine ME.of (pe_slice sl_all ha po_none (po_some hb)) (fun σ H Q ⟨O, ρ, S, A⟩ => ?_) (by intro _; rfl)
  rw [evE] at A
  refine ⟨O, ρ, S, A.bind fun o1 ρ1 O1 H1 S1 T1 A1 x hx => ?_⟩
  show tPart (tE R W cb) σ H1 (fun u H3 => rSlc X.K x none u H3 Q)
  refine tPart_of S1 ((A1.rebase T1).bind fun r2 ρ2 O2 H2 S2 T2 A2 O2 S2 T2 => ?_)
  obtain ⟨r, e, A3⟩ := A2.lift
  obtain ⟨d1, e1, e2⟩ := Option.bind_eq_some_iff.mp e
  obtain ⟨i, e3, e4⟩ := Option.bind_eq_some_iff.mp e2
  rw [hK]
  exact ⟨i, e3, O2, d1, r, (hx.mono (S1.mono T2)).rq S2 e1, e4, fun v H' ex hf => A3.done S2 T2 (fun _ z => T1.none z) ex hf⟩
theorem me_sl3 {p2 : Pos} {d : Expr} {cd : CE} (hK : X.K = R.K) (ha : PE X a (tO R W ca)) (hb : PE X b (tE R W cb)) (hd : PE X d (tE R W cd)) : ME X R W (.Subscript a (.Slice (some b) (some d) none p2) pos) (.sl3 ca cb cd) := by
  refine ME.of (pe_slice sl_all ha (po_some hb) (po_some hd)) (fun σ H Q ⟨O, ρ, S, A⟩ => ?_) (by intro _; rfl)
  rw [evE] at A
  refine ⟨O, ρ, S, A.bind fun o1 ρ1 O1 H1 S1 T1 A1 x hx => ?_⟩
  refine tPart_of S1 ((A1.rebase T1).bind fun r2 ρ2 O2 H2 S2 T2 A2 O2 S2 T2 => ?_)
  obtain ⟨i, ei, A2⟩ := A2.liftB
  refine ⟨i, ei, ?_⟩
  refine tPart_of S2 ((A2.rebase T2).bind fun r3 ρ3 O3 H3 S3 T3 A4 O3 S3 T3 => ?_)
  obtain ⟨r, e, A5⟩ := A4.lift
  obtain ⟨d1, e1, e2⟩ := Option.bind_eq_some_iff.mp e
  obtain ⟨j, e5, e6⟩ := Option.bind_eq_some_iff.mp e2
  rw [hK]
  exact ⟨j, e5, O3, d1, r, ((hx.mono (S1.mono T2)).mono (S2.mono T3)).rq S3 e1, e6, fun v H' ex hf => A5.done S3 T3 (fun _ z => T1.none (T2.none z)) ex hf⟩
end
end Mi
end
section
namespace Mi
open PySem PySem.Spec L2
section
variable {X : Cx} {R : Rt} {W : WX} {e a b : Expr} {c ca cb cc : CE} {pos p : Pos} {es : List Expr} {x : Str}
def plainE : Expr → Bool
  | .Starred _ _ => false
  | _ => true
theorem star_of {env : PySem.Env} (h : plainE e = true) : starEach (e :: es) env = (false, eval e env) :: starEach es env := by
  cases e <;> first | rfl | cases h
theorem star1 {env : PySem.Env} (h : plainE e = true) : starEach [e] env = [(false, eval e env)] := star_of h
theorem le_b1 {f : B1} (hK : X.K = R.K) {σ : L2.St} {H : Hp} {Q : VK} (h : tE R W (.b1 f ca) σ H Q) : tO R W ca σ H (fun x H1 => rB1 X.K f [x] H1 Q) := by
  obtain ⟨O, ρ, S, A⟩ := h
  rw [evE] at A
  refine ⟨O, ρ, S, A.bind fun o1 ρ1 O1 H1 S1 T1 A1 x hx => ?_⟩
  obtain ⟨r, e, A3⟩ := A1.lift
  obtain ⟨d1, e1, e2⟩ := Option.bind_eq_some_iff.mp e
  rw [hK]
  exact ⟨O1, x, d1, r, rfl, hx.rq S1 e1, e2, fun v H' ex hf => A3.done S1 T1 (fun _ z => z) ex hf⟩
theorem me_b1 {f : B1} {id : String} (hK : X.K = R.K) (hc : CallR X (.builtin id) (rB1 X.K f)) (hg : Gl X x) (hm : X.mg x = none) (hv : bootBuiltins x = some (.builtin id)) (hn : x ≠ "__name__") (hdb : (x == ("__debug__" : Str)) = false)
    (ha : PE X a (tO R W ca)) (hp : plainE a = true) : ME X R W (.Call (.Name x p) [a] [] pos) (.b1 f ca) :=
  ME.of (pe_callB hc hg hm hv (pa_cons ha pa_nil (star_of hp)) hn hdb (star_of hp) rfl) (fun _ _ _ h => le_b1 hK h) (by intro _; rfl)
theorem me_t1 {f : B1} {T : String} (hK : X.K = R.K) (hc : CallR X (.type T) (rB1 X.K f)) (hg : Gl X x) (hm : X.mg x = none) (hv : bootBuiltins x = some (.type T)) (hn : x ≠ "__name__") (hdb : (x == ("__debug__" : Str)) = false)
    (ha : PE X a (tO R W ca)) (hp : plainE a = true) : ME X R W (.Call (.Name x p) [a] [] pos) (.b1 f ca) :=
  ME.of (pe_callTy hc hg hm hv (pa_cons ha pa_nil (star_of hp)) hn hdb (star_of hp) rfl) (fun _ _ _ h => le_b1 hK h) (by intro _; rfl)
theorem le_b2 {f : B2} {σ : L2.St} {H : Hp} {Q : VK} (h : tE R W (.b2 f ca cb) σ H Q) (hf : f = .max ∨ f = .min) :
    tE R W ca σ H (fun x H1 => tE R W cb σ H1 (fun y H2 => ∃ i j, [x, y] = [.int i, .int j] ∧ Q (.int (if f = .max then (if j > i then j else i) else (if j < i then j else i))) H2)) := by
  obtain ⟨O, ρ, S, A⟩ := h
  rw [evE] at A
  refine tE_val S (A.bind fun r1 ρ1 O1 H1 S1 T1 A1 O1 S1 T1 x hx => ?_)
  refine tE_val S1 ((A1.rebase T1).bind fun r2 ρ2 O2 H2 S2 T2 A2 O2 S2 T2 y hy => ?_)
  obtain ⟨r, e, A3⟩ := A2.lift
  obtain ⟨f1, d1⟩ := r1
  obtain ⟨f2, d2⟩ := r2
  rcases hf with rfl | rfl
  · cases d1 <;> first | (cases e; done) | skip
    cases d2 <;> first | (cases e; done) | skip
    cases e
    rw [hx.rq.int, hy.rq.int]
    exact ⟨_, _, rfl, A3 O2 H2 S2 T2 _ (RR.val (.int _))⟩
  · cases d1 <;> first | (cases e; done) | skip
    cases d2 <;> first | (cases e; done) | skip
    cases e
    rw [hx.rq.int, hy.rq.int]
    exact ⟨_, _, rfl, A3 O2 H2 S2 T2 _ (RR.val (.int _))⟩
theorem me_max (hc : X.calm = true) (hg : Gl X "max") (hm : X.mg "max" = none) (ha : PE X a (tE R W ca)) (hb : PE X b (tE R W cb)) (hp : plainE a = true) (hq : plainE b = true) : ME X R W (.Call (.Name "max" p) [a, b] [] pos) (.b2 .max ca cb) :=
  ME.of (pe_callB (call_max2 hc) hg hm (by decide +kernel) (pa_cons ha (pa_cons hb pa_nil (star_of hq)) (star_of hp)) (by decide) (by decide) (star_of hp) (by rw [star1 hq]; rfl))
    (fun σ H Q h => le_b2 h (.inl rfl)) (by intro _; rfl)
theorem me_min (hc : X.calm = true) (hg : Gl X "min") (hm : X.mg "min" = none) (ha : PE X a (tE R W ca)) (hb : PE X b (tE R W cb)) (hp : plainE a = true) (hq : plainE b = true) : ME X R W (.Call (.Name "min" p) [a, b] [] pos) (.b2 .min ca cb) :=
  ME.of (pe_callB (call_min2 hc) hg hm (by decide +kernel) (pa_cons ha (pa_cons hb pa_nil (star_of hq)) (star_of hp)) (by decide) (by decide) (star_of hp) (by rw [star1 hq]; rfl))
    (fun σ H Q h => le_b2 h (.inr rfl)) (by intro _; rfl)
def tyName : Ty → String
  | .str => "str"
  | .tuple => "tuple"
  | .list => "list"
  | .int => "int"
  | .bool => "bool"
  | .dict => "dict"
def rIsi' (K : PySem.W.Frag) (T : Ty) : List V → Hp → VK → Prop := fun xs H Q => ∃ O x d, xs = [x, .ty (tyName T)] ∧ Rq K O H x d ∧ isiOk d = true ∧ Q (.bl (tyOf d T)) H
theorem cr_isi {T : Ty} : CallR X (.builtin "isinstance") (rIsi' X.K T) := by
  intro pins s σ H xs us Q I r hh
  obtain ⟨O, x, d, rfl, h, ok, q⟩ := hh
  obtain ⟨u, c, rfl, rx, rc⟩ := vals2 r
  obtain rfl : c = .type (tyName T) := rc
  have fin : ∀ tk, EP X pins σ Q (.bool (tyOf d T)) { s with toks := tk } := fun tk => ⟨.bl _, H, I.tok tk, rfl, q⟩
  have kit : ∀ {n : String}, (∀ T, kitB n (tyName T) = some (tyOf d T)) → PySem.W.kitOne X.K (.type n) (.type (tyName T)) = some (tyOf d T) := fun z => kit_ty (z T)
  cases d with
  | none =>
    obtain rfl := h.none
    cases (show u = Value.none from rx)
    exact PySem.W.kia_one PySem.W.kitx_none I.kIn True.intro (kit fun T => by cases T <;> decide +kernel) (fun z => nomatch z) fin
  | bool b =>
    obtain rfl := h.bool
    cases (show u = Value.bool b from rx)
    exact PySem.W.kia_one PySem.W.kitx_bool I.kIn True.intro (kit fun T => by cases T <;> (simp only [tyOf, tyName]; decide +kernel)) (fun z => nomatch z) fin
  | int i =>
    obtain rfl := h.int
    obtain ⟨t, e⟩ := (show ∃ t, u = Value.int i t from rx)
    subst e
    exact PySem.W.kia_one PySem.W.kitx_int I.kIn True.intro (kit fun T => by cases T <;> (simp only [tyOf, tyName]; decide +kernel)) (fun z => nomatch z) fin
  | str z =>
    obtain rfl := h.str
    obtain ⟨t, e⟩ := (show ∃ t, u = Value.str z t from rx)
    subst e
    exact PySem.W.kia_one PySem.W.kitx_str I.kIn True.intro (kit fun T => by cases T <;> (simp only [tyOf, tyName]; decide +kernel)) (fun z => nomatch z) fin
  | list ds =>
    obtain ⟨a, zs, rfl, ha, _⟩ := h.list
    cases (show u = Value.ref a from rx)
    obtain ⟨_, _, n, _, h1⟩ := (show ObjOk X.prog X.w H s.heap a (.lst zs) from I.hok a _ ha)
    exact PySem.W.kia_one PySem.W.kitx_list I.kIn ⟨_, h1, rfl⟩ (kit fun T => by cases T <;> (simp only [tyOf, tyName]; decide +kernel)) (fun z => nomatch z) fin
  | tuple ds =>
    obtain ⟨a, zs, rfl, ha, _⟩ := h.tup
    cases (show u = Value.ref a from rx)
    obtain ⟨_, _, _, o, h1, h2, _⟩ := (show ObjOk X.prog X.w H s.heap a (.tup zs) from I.hok a _ ha)
    exact PySem.W.kia_one PySem.W.kitx_tuple I.kIn ⟨o, h1, h2⟩ (kit fun T => by cases T <;> (simp only [tyOf, tyName]; decide +kernel)) (fun z => nomatch z) fin
  | dict ds =>
    obtain ⟨a, w, rfl, ru, c⟩ := h.dict ok
    cases (show u = Value.ref a from rx)
    have ty : ∃ o, s.heap.get? a = some o ∧ o.cls = .type "dict" := by
      cases c with
      | dk _ _ =>
        obtain ⟨_, _, vs, _, o, es, ep, h1, h2, _⟩ := dk_rd I.hok ru.rd
        exact ⟨o, h1, h2.1⟩
      | dt _ _ =>
        obtain ⟨_, _, vs, _, o, es, ep, h1, h2, _⟩ := dt_rd I.hok ru.rd
        exact ⟨o, h1, h2.1⟩
    exact PySem.W.kia_one PySem.W.kitx_dict I.kIn ty (kit fun T => by cases T <;> (simp only [tyOf, tyName]; decide +kernel)) (fun z => nomatch z) fin
theorem bltn_ty {T : Ty} (hg : Gl X (tyName T)) (hm : X.mg (tyName T) = none) : PE X (.Name (tyName T) p) (tC (.ty (tyName T))) := by
  cases T <;> exact pe_bltn hg hm (by decide +kernel) rfl (by decide) (by decide)
theorem me_isi {T : Ty} {p2 : Pos} (hK : X.K = R.K) (hg : Gl X "isinstance") (hm : X.mg "isinstance" = none) (hg2 : Gl X (tyName T)) (hm2 : X.mg (tyName T) = none) (ha : PE X a (tO R W ca)) (hp : plainE a = true) :
    ME X R W (.Call (.Name "isinstance" p) [a, .Name (tyName T) p2] [] pos) (.isi ca T) := by
  refine ME.of (pe_callB (cr_isi (T := T)) hg hm (by decide +kernel) (pa_cons ha (pa_cons (bltn_ty hg2 hm2) pa_nil (by rfl)) (star_of hp)) (by decide) (by decide) (star_of hp) (by rfl)) (fun σ H Q ⟨O, ρ, S, A⟩ => ?_) (by intro _; rfl)
  rw [evE] at A
  refine ⟨O, ρ, S, A.bind fun o1 ρ1 O1 H1 S1 T1 A1 x hx => ?_⟩
  obtain ⟨r, e, A3⟩ := A1.lift
  obtain ⟨d1, e1, e2⟩ := Option.bind_eq_some_iff.mp e
  split at e2
  · rename_i ok
    cases e2
    rw [hK]
    exact ⟨O1, x, d1, rfl, hx.rq S1 e1, ok, A3 O1 H1 S1 T1 _ (RR.val (.bl _))⟩
  · cases e2
end
end Mi
end
section
namespace Mi
open PySem PySem.Spec L2
def ArgR (K : PySem.W.Frag) (H₀ : Hp) (O : Addr → Prop) (H : Hp) (ρ : Env) (σ : L2.St) : ArgV → V → Prop
  | .ref i, v => σ[i]? = some (some v)
  | .val (.shr d), v => Rp K O H v d
  | .val (.own d), v => ∃ a u, v = .ref a ∧ O a ∧ H₀ a = none ∧ (∀ i, ¬ Own ρ σ i a) ∧ H a = some u ∧ Ct K O H u d
  | .val .emp, _ => False
inductive ArgsR (K : PySem.W.Frag) (H₀ : Hp) (O : Addr → Prop) (H : Hp) (ρ : Env) (σ : L2.St) : List ArgV → List V → Prop
  | nil : ArgsR K H₀ O H ρ σ [] []
  | cons {a : ArgV} {v : V} {as : List ArgV} {vs : List V} : ArgR K H₀ O H ρ σ a v → ArgsR K H₀ O H ρ σ as vs → (∀ (k : Nat) d d', a = .val (.own d) → as[k]? = some (.val (.own d')) → vs[k]? ≠ some v) → ArgsR K H₀ O H ρ σ (a :: as) (v :: vs)
section
variable {K : PySem.W.Frag} {H₀ H₁ H H' : Hp} {O O' : Addr → Prop} {ρ ρ' : Env} {σ : L2.St}
theorem ArgR.up {a : ArgV} {v : V} (h : ArgR K H₁ O H ρ σ a v) (k : ∀ a, H₁ a = none → H₀ a = none) : ArgR K H₀ O H ρ σ a v := by
  cases a with
  | ref i => exact h
  | val s =>
    cases s with
    | emp => exact h
    | shr d => exact h
    | own d =>
      obtain ⟨a, u, e1, o, n, w, q⟩ := h
      exact ⟨a, u, e1, o, k a n, w, q⟩
theorem ArgR.step {a : ArgV} {v : V} (S : SR K O H ρ σ) (h : ArgR K H₀ O H ρ σ a v) (T : Step O H ρ σ O' H' ρ' σ) : ArgR K H₀ O' H' ρ' σ a v := by
  cases a with
  | ref i => exact h
  | val s =>
    cases s with
    | emp => exact h
    | shr d => exact Rp.mono (S.mono T) h
    | own d =>
      obtain ⟨a, u, e1, o, n, w, hu, c⟩ := h
      obtain ⟨t1, t2⟩ := T.tr a u hu w
      refine ⟨a, u, e1, t2.mpr o, n, fun i z => ?_, t1, c.mono (S.mono T)⟩
      rcases T.ow i a z with q | q
      · exact w i q
      · rw [q] at hu; cases hu
theorem ArgsR.up {as : List ArgV} {vs : List V} (h : ArgsR K H₁ O H ρ σ as vs) (k : ∀ a, H₁ a = none → H₀ a = none) : ArgsR K H₀ O H ρ σ as vs := by
  induction h with
  | nil => exact .nil
  | cons h1 _ h3 ih => exact .cons (h1.up k) ih h3
theorem ArgsR.length {as : List ArgV} {vs : List V} (h : ArgsR K H₀ O H ρ σ as vs) : as.length = vs.length := by
  induction h with
  | nil => rfl
  | cons _ _ _ ih => rw [List.length_cons, List.length_cons, ih]
theorem ArgsR.get {as : List ArgV} {vs : List V} (h : ArgsR K H₀ O H ρ σ as vs) : ∀ {k : Nat} {a : ArgV}, as[k]? = some a → ∃ v, vs[k]? = some v ∧ ArgR K H₀ O H ρ σ a v := by
  induction h with
  | nil => intro k a e; simp at e
  | cons h1 _ _ ih =>
    intro k a e
    cases k with
    | zero => simp at e; subst e; exact ⟨_, rfl, h1⟩
    | succ k =>
      obtain ⟨v, e1, e2⟩ := ih (k := k) (by simpa using e)
      exact ⟨v, by simpa using e1, e2⟩
theorem ArgsR.apart {as : List ArgV} {vs : List V} (h : ArgsR K H₀ O H ρ σ as vs) : ∀ {i j : Nat} {d d' : D} {v : V}, as[i]? = some (.val (.own d)) → as[j]? = some (.val (.own d')) → vs[i]? = some v → vs[j]? = some v → i = j := by
  induction h with
  | nil => intro i j d d' v e; simp at e
  | cons h1 _ h3 ih =>
    intro i j d d' v e1 e2 e3 e4
    cases i with
    | zero =>
      cases j with
      | zero => rfl
      | succ j =>
        simp at e1 e2 e3 e4
        subst e1 e3
        exact absurd e4 (h3 j d d' rfl e2)
    | succ i =>
      cases j with
      | zero =>
        simp at e1 e2 e3 e4
        subst e2 e4
        exact absurd e3 (h3 i d' d rfl e1)
      | succ j => exact congrArg (· + 1) (ih (i := i) (j := j) (by simpa using e1) (by simpa using e2) (by simpa using e3) (by simpa using e4))
theorem slots_get : ∀ {as : List ArgV} {ss : List Slot}, argSlots ρ as = some ss → ss.length = as.length ∧ ∀ {k : Nat} {a : ArgV}, as[k]? = some a → ∃ s, ss[k]? = some s ∧ (match a with | .ref i => ∃ d, ρ[i]? = some (.own d) ∧ s = .own d | .val t => s = t)
  | [], ss, e => by
    cases e
    exact ⟨rfl, fun h => by simp at h⟩
  | .ref i :: as, ss, e => by
    unfold argSlots at e
    split at e
    · rename_i d hd
      obtain ⟨ts, e1, rfl⟩ := Option.map_eq_some_iff.mp e
      obtain ⟨h1, h2⟩ := slots_get e1
      refine ⟨by rw [List.length_cons, List.length_cons, h1], fun {k a} h => ?_⟩
      cases k with
      | zero => simp at h; subst h; exact ⟨_, rfl, d, hd, rfl⟩
      | succ k =>
        obtain ⟨s, q1, q2⟩ := h2 (k := k) (by simpa using h)
        exact ⟨s, by simpa using q1, q2⟩
    · cases e
  | .val t :: as, ss, e => by
    unfold argSlots at e
    obtain ⟨ts, e1, rfl⟩ := Option.map_eq_some_iff.mp e
    obtain ⟨h1, h2⟩ := slots_get e1
    refine ⟨by rw [List.length_cons, List.length_cons, h1], fun {k a} h => ?_⟩
    cases k with
    | zero => simp at h; subst h; exact ⟨_, rfl, rfl⟩
    | succ k =>
      obtain ⟨s, q1, q2⟩ := h2 (k := k) (by simpa using h)
      exact ⟨s, by simpa using q1, q2⟩
theorem refs_mem : ∀ {as : List ArgV} {i : Nat}, i ∈ argRefs as ↔ ∃ k : Nat, as[k]? = some (.ref i)
  | [], i => by simp [argRefs]
  | .ref j :: as, i => by
    rw [argRefs, List.mem_cons, refs_mem]
    constructor
    · rintro (rfl | ⟨k, h⟩)
      · exact ⟨0, rfl⟩
      · exact ⟨k + 1, by simpa using h⟩
    · rintro ⟨k, h⟩
      cases k with
      | zero => simp at h; exact .inl h.symm
      | succ k => exact .inr ⟨k, by simpa using h⟩
  | .val s :: as, i => by
    rw [argRefs, refs_mem]
    constructor
    · rintro ⟨k, h⟩
      exact ⟨k + 1, by simpa using h⟩
    · rintro ⟨k, h⟩
      cases k with
      | zero => simp at h
      | succ k => exact ⟨k, by simpa using h⟩
theorem refs_inj : ∀ {as : List ArgV} {i j k : Nat}, (argRefs as).Nodup → as[i]? = some (.ref k) → as[j]? = some (.ref k) → i = j
  | [], i, j, k, _, h, _ => by simp at h
  | .ref m :: as, i, j, k, n, h1, h2 => by
    rw [argRefs, List.nodup_cons] at n
    cases i with
    | zero =>
      cases j with
      | zero => rfl
      | succ j =>
        simp at h1 h2
        subst h1
        exact absurd (refs_mem.mpr ⟨j, h2⟩) n.1
    | succ i =>
      cases j with
      | zero =>
        simp at h1 h2
        subst h2
        exact absurd (refs_mem.mpr ⟨i, h1⟩) n.1
      | succ j => exact congrArg (· + 1) (refs_inj (i := i) (j := j) n.2 (by simpa using h1) (by simpa using h2))
  | .val s :: as, i, j, k, n, h1, h2 => by
    rw [argRefs] at n
    cases i with
    | zero => simp at h1
    | succ i =>
      cases j with
      | zero => simp at h2
      | succ j => exact congrArg (· + 1) (refs_inj (i := i) (j := j) n (by simpa using h1) (by simpa using h2))
theorem own_arg {as : List ArgV} {ss : List Slot} {vs : List V} (S : SR K O H ρ σ) (r : ArgsR K H₀ O H ρ σ as vs) (e : argSlots ρ as = some ss) {k : Nat} {a : Addr} (w : Own ss (vs.map some) k a) :
    vs[k]? = some (.ref a) ∧ O a ∧ ((∃ i, as[k]? = some (.ref i) ∧ Own ρ σ i a) ∨ ((∃ d, as[k]? = some (.val (.own d))) ∧ (∀ i, ¬ Own ρ σ i a) ∧ H₀ a = none)) := by
  obtain ⟨⟨d, hd⟩, hv⟩ := w
  obtain ⟨hl, hg⟩ := slots_get e
  have hk : k < as.length := by rw [← hl]; exact (List.getElem?_eq_some_iff.mp hd).1
  have ha : as[k]? = some as[k] := List.getElem?_eq_getElem hk
  have hvk : vs[k]? = some (.ref a) := by
    rw [List.getElem?_map] at hv
    obtain ⟨v, e1, e2⟩ := Option.map_eq_some_iff.mp hv
    cases e2
    exact e1
  obtain ⟨s, hs, hm⟩ := hg ha
  rw [hd] at hs; cases hs
  obtain ⟨v, hv2, hr⟩ := r.get ha
  rw [hvk] at hv2; cases hv2
  generalize as[k] = x at ha hm hr
  cases x with
  | ref i =>
    obtain ⟨d', h1, h2⟩ := hm
    have w : Own ρ σ i a := ⟨⟨d', h1⟩, hr⟩
    exact ⟨hvk, S.own w, .inl ⟨i, ha, w⟩⟩
  | val t =>
    have hm : Slot.own d = t := hm
    subst hm
    obtain ⟨b, u, e1, o, n, nw, _⟩ := hr
    cases e1
    exact ⟨hvk, o, .inr ⟨⟨d, ha⟩, nw, n⟩⟩
theorem SR.callee {as : List ArgV} {ss : List Slot} {vs : List V} (S : SR K O H ρ σ) (r : ArgsR K H₀ O H ρ σ as vs) (e : argSlots ρ as = some ss) (nd : (argRefs as).Nodup) : SR K O H ss (vs.map some) := by
  obtain ⟨hl, hg⟩ := slots_get e
  refine ⟨S.oc, fun k s hs => ?_, fun i j a wi wj => ?_, by rw [hl, List.length_map, r.length]⟩
  · have hk : k < as.length := by rw [← hl]; exact (List.getElem?_eq_some_iff.mp hs).1
    have ha : as[k]? = some as[k] := List.getElem?_eq_getElem hk
    obtain ⟨s', hs', hm⟩ := hg ha
    rw [hs] at hs'; cases hs'
    obtain ⟨v, hv, hr⟩ := r.get ha
    have hv' : (vs.map some)[k]? = some (some v) := by rw [List.getElem?_map, hv]; rfl
    generalize as[k] = x at ha hm hr
    cases x with
    | ref i =>
      obtain ⟨d, h1, rfl⟩ := hm
      obtain ⟨a, u, e1, o, hu, c⟩ := S.sl i _ h1
      have hr : σ[i]? = some (some v) := hr
      rw [hr] at e1; cases e1
      exact ⟨a, u, hv', o, hu, c⟩
    | val t =>
      have hm : s = t := hm
      subst hm
      cases s with
      | emp => exact hr.elim
      | shr d => exact ⟨v, hv', hr⟩
      | own d =>
        obtain ⟨a, u, rfl, o, _, _, hu, c⟩ := hr
        exact ⟨a, u, hv', o, hu, c⟩
  · obtain ⟨vi, _, ci⟩ := own_arg S r e wi
    obtain ⟨vj, _, cj⟩ := own_arg S r e wj
    rcases ci with ⟨m, hm, wm⟩ | ⟨⟨d, hd⟩, nw, _⟩
    · rcases cj with ⟨m', hm', wm'⟩ | ⟨_, nw', _⟩
      · have := S.inj m m' a wm wm'
        subst this
        exact refs_inj nd hm hm'
      · exact absurd wm (nw' m)
    · rcases cj with ⟨m', hm', wm'⟩ | ⟨⟨d', hd'⟩, _, _⟩
      · exact absurd wm' (nw m')
      · exact r.apart hd hd' vi vj
theorem put_len : ∀ (as : List ArgV) (os : List Slot) (ρ : Env), (putOuts as os ρ).length = ρ.length
  | [], _, ρ => by unfold putOuts; rfl
  | .ref i :: as, [], ρ => by unfold putOuts; rfl
  | .val _ :: as, [], ρ => by unfold putOuts; rfl
  | .ref i :: as, o :: os, ρ => by rw [putOuts, put_len]; simp
  | .val _ :: as, o :: os, ρ => by rw [putOuts, put_len]
theorem put_other : ∀ {as : List ArgV} {os : List Slot} {ρ : Env} {k : Nat}, k ∉ argRefs as → (putOuts as os ρ)[k]? = ρ[k]?
  | [], _, ρ, k, _ => by unfold putOuts; rfl
  | .ref i :: as, [], ρ, k, _ => by unfold putOuts; rfl
  | .val _ :: as, [], ρ, k, _ => by unfold putOuts; rfl
  | .ref i :: as, o :: os, ρ, k, h => by
    rw [argRefs, List.mem_cons, not_or] at h
    rw [putOuts, put_other h.2, List.getElem?_set_ne (fun e => h.1 e.symm)]
  | .val _ :: as, o :: os, ρ, k, h => by
    rw [argRefs] at h
    rw [putOuts, put_other h]
theorem put_at : ∀ {as : List ArgV} {os : List Slot} {ρ : Env} {k j : Nat} {s : Slot}, (argRefs as).Nodup → as[j]? = some (.ref k) → os[j]? = some s → k < ρ.length → (putOuts as os ρ)[k]? = some s
  | [], _, ρ, k, j, s, _, h, _, _ => by simp at h
  | .ref i :: as, [], ρ, k, j, s, _, _, h, _ => by simp at h
  | .val _ :: as, [], ρ, k, j, s, _, _, h, _ => by simp at h
  | .ref i :: as, o :: os, ρ, k, j, s, n, h1, h2, hk => by
    rw [argRefs, List.nodup_cons] at n
    rw [putOuts]
    cases j with
    | zero =>
      simp at h1 h2
      subst h1 h2
      rw [put_other n.1, List.getElem?_set_self hk]
    | succ j => exact put_at (j := j) n.2 (by simpa using h1) (by simpa using h2) (by simpa using hk)
  | .val _ :: as, o :: os, ρ, k, j, s, n, h1, h2, hk => by
    rw [argRefs] at n
    rw [putOuts]
    cases j with
    | zero => simp at h1
    | succ j => exact put_at (j := j) n (by simpa using h1) (by simpa using h2) hk
theorem SR.back {as : List ArgV} {ss os : List Slot} {vs : List V} (S : SR K O H ρ σ) (r : ArgsR K H₀ O H ρ σ as vs) (e : argSlots ρ as = some ss) (nd : (argRefs as).Nodup) (hz : os.length = as.length)
    (S' : SR K O' H' os (vs.map some)) (T : Step O H ss (vs.map some) O' H' os (vs.map some)) :
    SR K O' H' (putOuts as os ρ) σ ∧ (∀ k a, Own (putOuts as os ρ) σ k a → Own ρ σ k a) ∧ (∀ k a, Own (putOuts as os ρ) σ k a → (∃ j, Own os (vs.map some) j a) ∨ ((∀ i, ¬ Own ss (vs.map some) i a))) := by
  have Sc := S.callee r e nd
  have m : Mono O H O' H' := Sc.mono T
  have slot : ∀ k s, (putOuts as os ρ)[k]? = some s → (k ∉ argRefs as ∧ ρ[k]? = some s) ∨ ∃ (j : Nat) (v : V), as[j]? = some (.ref k) ∧ os[j]? = some s ∧ vs[j]? = some v ∧ σ[k]? = some (some v) ∧ ∃ d, ρ[k]? = some (.own d) := fun k s hs => by
    by_cases hk : k ∈ argRefs as
    · obtain ⟨j, hj⟩ := refs_mem.mp hk
      obtain ⟨v, hv, hr⟩ := r.get hj
      have hr : σ[k]? = some (some v) := hr
      obtain ⟨hl, hg⟩ := slots_get e
      obtain ⟨_, _, d, hd, _⟩ := hg hj
      have hj' : j < os.length := by rw [hz]; exact (List.getElem?_eq_some_iff.mp hj).1
      have ho : os[j]? = some os[j] := List.getElem?_eq_getElem hj'
      have := put_at nd hj ho (List.getElem?_eq_some_iff.mp hd).1
      rw [hs] at this
      exact .inr ⟨j, v, hj, this ▸ ho, hv, hr, d, hd⟩
    · rw [put_other hk] at hs
      exact .inl ⟨hk, hs⟩
  have stay : ∀ k a u, k ∉ argRefs as → Own ρ σ k a → H a = some u → H' a = some u ∧ (O' a ↔ O a) ∧ ∀ i, ¬ Own ss (vs.map some) i a := fun k a u hk w hu => by
    have no : ∀ i, ¬ Own ss (vs.map some) i a := fun i wi => by
      obtain ⟨_, _, c⟩ := own_arg S r e wi
      rcases c with ⟨n, hn, wn⟩ | ⟨_, nw, _⟩
      · have := S.inj k n a w wn
        subst this
        exact hk (refs_mem.mpr ⟨i, hn⟩)
      · exact nw k w
    obtain ⟨t1, t2⟩ := T.tr a u hu no
    exact ⟨t1, t2, no⟩
  refine ⟨⟨S'.oc, fun k s hs => ?_, fun i j a wi wj => ?_, by rw [put_len]; exact S.len⟩, fun k a w => ?_, fun k a w => ?_⟩
  · rcases slot k s hs with ⟨hk, hρ⟩ | ⟨j, v, hj, ho, hv, hσ, _⟩
    · have q := S.sl k s hρ
      cases s with
      | emp => trivial
      | shr d => obtain ⟨w, e1, r1⟩ := q; exact ⟨w, e1, r1.mono m⟩
      | own d =>
        obtain ⟨a, u, e1, o, hu, c⟩ := q
        obtain ⟨t1, t2, _⟩ := stay k a u hk ⟨⟨d, hρ⟩, e1⟩ hu
        exact ⟨a, u, e1, t2.mpr o, t1, c.mono m⟩
    · have q := S'.sl j s ho
      have hv' : (vs.map some)[j]? = some (some v) := by rw [List.getElem?_map, hv]; rfl
      cases s with
      | emp => trivial
      | shr d => obtain ⟨w, e1, r1⟩ := q; rw [hv'] at e1; cases e1; exact ⟨v, hσ, r1⟩
      | own d => obtain ⟨a, u, e1, q⟩ := q; rw [hv'] at e1; cases e1; exact ⟨a, u, hσ, q⟩
  · have old : ∀ k, Own (putOuts as os ρ) σ k a → Own ρ σ k a := fun k w => by
      obtain ⟨⟨d, hd⟩, hσ⟩ := w
      rcases slot k _ hd with ⟨_, hρ⟩ | ⟨_, _, _, _, _, _, d', hd'⟩
      · exact ⟨⟨d, hρ⟩, hσ⟩
      · exact ⟨⟨d', hd'⟩, hσ⟩
    exact S.inj i j a (old i wi) (old j wj)
  · obtain ⟨⟨d, hd⟩, hσ⟩ := w
    rcases slot k _ hd with ⟨_, hρ⟩ | ⟨_, _, _, _, _, _, d', hd'⟩
    · exact ⟨⟨d, hρ⟩, hσ⟩
    · exact ⟨⟨d', hd'⟩, hσ⟩
  · obtain ⟨⟨d, hd⟩, hσ⟩ := w
    rcases slot k _ hd with ⟨hk, hρ⟩ | ⟨j, v, hj, ho, hv, hσ', _⟩
    · obtain ⟨a', u, e1, o, hu, c⟩ := S.sl k _ hρ
      rw [hσ] at e1; cases e1
      exact .inr (stay k a u hk ⟨⟨d, hρ⟩, hσ⟩ hu).2.2
    · rw [hσ] at hσ'; cases hσ'
      exact .inl ⟨j, ⟨d, ho⟩, by rw [List.getElem?_map, hv]; rfl⟩
theorem call_step {H₁ : Hp} {O₁ : Addr → Prop} {ρ₁ : Env} {as : List ArgV} {ss os : List Slot} {vs : List V} (S : SR K O H ρ σ) (T0 : Step O₁ H₁ ρ₁ σ O H ρ σ) (r : ArgsR K H₁ O H ρ σ as vs) (e : argSlots ρ as = some ss)
    (own : ∀ k a, Own (putOuts as os ρ) σ k a → Own ρ σ k a) (T : Step O H ss (vs.map some) O' H' os (vs.map some)) : Step O₁ H₁ ρ₁ σ O' H' (putOuts as os ρ) σ where
  tr := fun a o h n => by
    obtain ⟨h1, e1⟩ := T0.tr a o h n
    have nw : ∀ i, ¬ Own ρ σ i a := fun i w => by
      rcases T0.ow i a w with q | q
      · exact n i q
      · rw [q] at h; cases h
    have ns : ∀ i, ¬ Own ss (vs.map some) i a := fun i w => by
      obtain ⟨_, _, c⟩ := own_arg S r e w
      rcases c with ⟨m, _, w⟩ | ⟨_, _, z⟩
      · exact nw m w
      · rw [z] at h; cases h
    obtain ⟨h2, e2⟩ := T.tr a o h1 ns
    exact ⟨h2, e2.trans e1⟩
  dom := fun a h => T.dom a (T0.dom a h)
  ow := fun k a w => T0.ow k a (own k a w)
theorem RR.back {H₁ : Hp} {os : List Slot} {ρ'' : Env} {σ' : L2.St} {rs : Rs} {v : V} (S : SR K O H ρ σ) (h : RR K H O' H' os σ' rs v) (up : ∀ a, H a = none → H₁ a = none) (own : ∀ k a, Own ρ'' σ k a → Own ρ σ k a) : RR K H₁ O' H' ρ'' σ rs v := by
  unfold RR at h ⊢
  split at h
  · rename_i q
    rw [if_pos q]
    obtain ⟨a, u, e1, o, n, _, z⟩ := h
    refine ⟨a, u, e1, o, up a n, fun i w => ?_, z⟩
    obtain ⟨u', hu, _⟩ := S.oc a (S.own (own i a w))
    rw [n] at hu; cases hu
  · rename_i q
    rw [if_neg q]
    exact h
end
def spI (R : Rt) (nm : Str) : Sp := fun vs H Q E => ∃ O ss, SR R.K O H ss (vs.map some) ∧
  match R.cf.call nm ss with
  | .ret r outs => ∀ O' H' v, SR R.K O' H' outs (vs.map some) → Step O H ss (vs.map some) O' H' outs (vs.map some) → RR R.K H O' H' outs (vs.map some) r v → Q v H'
  | .exc x => ∀ O' H', SR R.K O' H' (emps ss) (vs.map some) → Step O H ss (vs.map some) O' H' (emps ss) (vs.map some) → ∀ cls d, R.ex x O' H' cls d → E cls d H'
  | .bad => False
def tA (R : Rt) (W : WX) (mu : List Nat) (j : Nat) (cs : List CE) : TA := fun σ H Q => ∃ O ρ, SR R.K O H ρ σ ∧ Ans R W σ O H ρ (evA R.cf mu j cs ρ) (fun as ρ' O' H' => ∀ vs, ArgsR R.K H O' H' ρ' σ as vs → Q vs H')
section
variable {X : Cx} {R : Rt} {W : WX} {e : Expr} {c : CE} {es : List Expr} {cs : List CE} {pos p : Pos} {mu : List Nat} {j : Nat}
theorem maa_nil : PA X [] (tA R W mu j []) := pa_wk pa_nil fun σ H Q ⟨O, ρ, S, A⟩ => by
  rw [evA] at A
  exact A O H S Step.refl [] .nil
def tA1 (R : Rt) (W : WX) (m : Bool) (c : CE) : TE := fun σ H Q => ∃ O ρ, SR R.K O H ρ σ ∧ Ans R W σ O H ρ (arg1 m c (evE R.cf c) ρ) (fun a ρ' O' H' => ∀ v, ArgR R.K H O' H' ρ' σ a v → Q v H')
theorem maa_cons (ha : PE X e (tA1 R W (mu.contains j) c)) (hr : PA X es (tA R W mu (j + 1) cs)) (hp : plainE e = true) : PA X (e :: es) (tA R W mu j (c :: cs)) :=
  pa_wk (pa_cons ha hr (star_of hp)) fun σ H Q ⟨O, ρ, S, A⟩ => by
    rw [evA] at A
    refine ⟨O, ρ, S, A.bind fun a ρ1 O1 H1 S1 T1 A1 v hv => ?_⟩
    refine ⟨O1, ρ1, S1, (A1.rebase T1).bind fun as ρ2 O2 H2 S2 T2 A2 vs hvs => ?_⟩
    have hv2 := hv.step S1 T2
    refine A2 O2 H2 S2 T2 (v :: vs) (.cons hv2 (hvs.up fun _ z => T1.none z) fun k d d' e1 e2 e3 => ?_)
    subst e1
    obtain ⟨a1, u1, rfl, _, _, _, hu1, _⟩ := hv
    obtain ⟨w, ew, hw⟩ := hvs.get e2
    rw [e3] at ew
    cases ew
    obtain ⟨a2, u2, e4, _, n2, _⟩ := hw
    cases e4
    rw [n2] at hu1
    cases hu1
theorem mk_arg {H₀ : Hp} {O : Addr → Prop} {H : Hp} {ρ : Env} {σ : L2.St} {r : Rs} {v : V} (h : RR R.K H₀ O H ρ σ r v) : ArgR R.K H₀ O H ρ σ (.val (mk r.1 r.2)) v := by
  unfold RR at h
  unfold mk
  split at h
  · rename_i q
    rw [if_pos q]
    exact h
  · rename_i q
    rw [if_neg q]
    exact h
theorem ma1_shr (h : PE X e (tE R W c)) : PE X e (tA1 R W false c) := pe_wk h fun σ H Q ⟨O, ρ, S, A⟩ => by
  unfold arg1 at A
  rw [if_neg (by decide)] at A
  refine tE_val S (A.bind fun r ρ1 O1 H1 S1 T1 A1 O1 S1 T1 x hx => ?_)
  exact A1 O1 H1 S1 T1 x hx
theorem arg1_of {ev : Env → Out Rs} {ρ : Env} (h : isVar c = false) : arg1 true c ev ρ = (ev ρ).bind fun r ρ' => .ok (.val (mk r.1 r.2)) ρ' := by
  unfold arg1
  rw [if_pos rfl]
  cases c <;> first | rfl | cases h
theorem ma1_new (hv : isVar c = false) (h : PE X e (tE R W c)) : PE X e (tA1 R W true c) := pe_wk h fun σ H Q ⟨O, ρ, S, A⟩ => by
  rw [arg1_of hv] at A
  exact ⟨O, ρ, S, A.bind fun r ρ1 O1 H1 S1 T1 A1 x hx => A1 O1 H1 S1 T1 x (mk_arg hx)⟩
theorem ma1_var {i : Nat} (h : PE X e (tVar i)) : PE X e (tA1 R W true (.var i)) := pe_wk h fun σ H Q ⟨O, ρ, S, A⟩ => by
  unfold arg1 at A
  rw [if_pos rfl] at A
  simp only at A
  split at A
  · rename_i d q
    obtain ⟨a, u, ea, _⟩ := S.sl i _ q
    exact ⟨.ref a, ea, A O H S Step.refl _ ea⟩
  · rename_i d q
    obtain ⟨v, e1, r1⟩ := S.sl i _ q
    exact ⟨v, e1, A O H S Step.refl v r1⟩
  · exact A.elim
theorem le_call {f : Str} {σ : L2.St} {H : Hp} {Q : VK} (h : tE R W (.call f cs) σ H Q) : tA R W (R.cf.sig f) 0 cs σ H (fun vs H1 => spI R f vs H1 Q (fun cls d H' => W cls d σ H')) := by
  obtain ⟨O, ρ, S, A⟩ := h
  rw [evE] at A
  refine ⟨O, ρ, S, A.bind fun as ρ1 O1 H1 S1 T1 A1 vs hvs => ?_⟩
  unfold callV at A1
  cases e1 : argSlots ρ1 as with
  | none => rw [e1] at A1; exact A1.elim
  | some ss =>
    rw [e1] at A1
    simp only at A1
    by_cases nd : (argRefs as).Nodup
    · rw [if_pos nd] at A1
      have Sc := S1.callee hvs e1 nd
      refine ⟨O1, ss, Sc, ?_⟩
      have lens : ss.length = as.length := (slots_get e1).1
      cases e2 : R.cf.call f ss with
      | bad => rw [e2] at A1; exact A1.elim
      | ret r outs =>
        rw [e2] at A1
        intro O' H' v S' T' rr
        have lo : outs.length = as.length := by rw [S'.len, List.length_map, hvs.length]
        obtain ⟨Sb, own, _⟩ := S1.back hvs e1 nd lo S' T'
        exact A1 O' H' Sb (call_step S1 T1 hvs e1 own T') v (rr.back S1 (fun _ z => T1.none z) own)
      | exc x =>
        rw [e2] at A1
        intro O' H' S' T' cls d hx
        have lo : (emps ss).length = as.length := by rw [emps, List.length_map, lens]
        obtain ⟨Sb, own, _⟩ := S1.back hvs e1 nd lo S' T'
        exact A1 O' H' Sb (call_step S1 T1 hvs e1 own T') cls d hx
    · rw [if_neg nd] at A1
      exact A1.elim
theorem me_call {f : Str} {k : Nat} {a : Addr} {fd : FuncData} {ps : List Str} {x : Str} (F : FnOk X.prog X.w X.K X.mg X.base (L2.CX X.prog X.w) k a fd ps (spI R f)) (hr : Room k X.A) (hg : Gl X x) (hm : X.mg x = some (.ref a)) (hk : PySem.W.keepIn X.K (.ref a) = true) (hb : Binds X.K fd ps [])
    (tk : Takes X W) (ha : PA X (e :: es) (tA R W (R.cf.sig f) 0 cs)) (hp : plainE e = true) (hpl : (backTo pos (starEach es X.env)).any (·.1) = false) (hdb : (x == ("__debug__" : Str)) = false) : ME X R W (.Call (.Name x p) (e :: es) [] pos) (.call f cs) := by
  refine ME.of (pe_callSD (E := fun σ => fun cls d H => W cls d σ H) F hr hg hm hk hb .nil (fun σ => passAt tk σ) ha hdb (star_of hp) hpl) (fun σ H Q h => ?_) (by intro _; rfl)
  unfold tCallSD
  simp only [List.append_nil]
  exact le_call h
theorem pe_none {f : Str} {k : Nat} {a : Addr} {fd : FuncData} {x : Str} (F : FnOk X.prog X.w X.K X.mg X.base (L2.CX X.prog X.w) k a fd [] (spI R f)) (hr : Room k X.A) (hg : Gl X x) (hm : X.mg x = some (.ref a)) (hk : PySem.W.keepIn X.K (.ref a) = true) (hb : Binds X.K fd [] [])
    (tk : Takes X W) (hdb : (x == ("__debug__" : Str)) = false) : PE X (.Call (.Name x p) [] [] pos) (fun σ H Q => spI R f [] H Q (fun cls d H' => W cls d σ H')) :=
  ⟨fun _ _ σ _ _ I h => wpAny_Call_Name_kw (ld_glob I hg hm (PySem.W.callWith_K0 I.kIn hk (run_fnSD (E := fun σ => fun cls d H => W cls d σ H) (us := []) (vs := []) (dvs := []) F hr hb .nil (passAt tk σ) I .nil h)) hdb)⟩
theorem me_call0 {f : Str} {k : Nat} {a : Addr} {fd : FuncData} {x : Str} (F : FnOk X.prog X.w X.K X.mg X.base (L2.CX X.prog X.w) k a fd [] (spI R f)) (hr : Room k X.A) (hg : Gl X x) (hm : X.mg x = some (.ref a)) (hk : PySem.W.keepIn X.K (.ref a) = true) (hb : Binds X.K fd [] [])
    (tk : Takes X W) (hdb : (x == ("__debug__" : Str)) = false) : ME X R W (.Call (.Name x p) [] [] pos) (.call f []) := by
  refine ME.of (pe_none F hr hg hm hk hb tk hdb) (fun σ H Q h => ?_) (by intro _; rfl)
  obtain ⟨O, ρ, S, A⟩ := le_call h
  rw [evA] at A
  exact A O H S Step.refl [] .nil
end
end Mi
end
section
namespace Mi
open PySem PySem.Spec L2
section
variable {K : PySem.W.Frag} {O O' O1 O2 : Addr → Prop} {H H' H1 H2 : Hp} {ρ ρ' ρ1 ρ2 : Env} {σ σ' σ1 σ2 : L2.St}
theorem SR.mask (S : SR K O H ρ σ) (hl : ρ'.length = σ'.length) (h : ∀ (i : Nat) s, ρ'[i]? = some s → s = .emp ∨ (ρ[i]? = some s ∧ σ'[i]? = σ[i]?)) : SR K O H ρ' σ' ∧ Step O H ρ σ O H ρ' σ' := by
  have own : ∀ k b, Own ρ' σ' k b → Own ρ σ k b := fun k b ⟨⟨d, e1⟩, e2⟩ => by
    rcases h k _ e1 with z | ⟨z1, z2⟩
    · cases z
    · exact ⟨⟨d, z1⟩, by rw [← z2]; exact e2⟩
  refine ⟨⟨S.oc, fun i s hs => ?_, fun i j a x y => S.inj i j a (own i a x) (own j a y), hl⟩, fun a o h _ => ⟨h, .rfl⟩, fun _ h => h, fun i a w => .inl (own i a w)⟩
  rcases h i s hs with rfl | ⟨z1, z2⟩
  · exact True.intro
  · have q := S.sl i s z1
    cases s with
    | emp => trivial
    | shr d => obtain ⟨v, e, r⟩ := q; exact ⟨v, by rw [z2]; exact e, r⟩
    | own d => obtain ⟨a, u, e, r⟩ := q; exact ⟨a, u, by rw [z2]; exact e, r⟩
theorem wipeE_length : ∀ (vs : List Nat), (wipeE ρ vs).length = ρ.length
  | [] => rfl
  | i :: r => by unfold wipeE; rw [List.length_set, wipeE_length r]
theorem wipeE_get {i : Nat} {s : Slot} : ∀ {vs : List Nat}, (wipeE ρ vs)[i]? = some s → s = .emp ∨ (ρ[i]? = some s ∧ i ∉ vs)
  | [], h => .inr ⟨h, by simp⟩
  | j :: r, h => by
    unfold wipeE at h
    by_cases hj : j = i
    · subst hj
      by_cases hl : j < (wipeE ρ r).length
      · rw [List.getElem?_set_self hl] at h
        exact .inl (Option.some.inj h).symm
      · rw [List.getElem?_eq_none (by simpa using hl)] at h; cases h
    · rw [List.getElem?_set_ne hj] at h
      rcases wipeE_get h with z | ⟨z1, z2⟩
      · exact .inl z
      · exact .inr ⟨z1, by simp only [List.mem_cons, not_or]; exact ⟨fun e => hj e.symm, z2⟩⟩
theorem wipeE_not {i : Nat} : ∀ {vs : List Nat}, i ∉ vs → (wipeE ρ vs)[i]? = ρ[i]?
  | [], _ => rfl
  | j :: r, h => by
    simp only [List.mem_cons, not_or] at h
    unfold wipeE
    rw [List.getElem?_set_ne (fun e => h.1 e.symm)]
    exact wipeE_not h.2
theorem SR.wipe (S : SR K O H ρ σ) (vs : List Nat) : SR K O H (wipeE ρ vs) (L2.wipe σ vs) ∧ Step O H ρ σ O H (wipeE ρ vs) (L2.wipe σ vs) := by
  refine S.mask (by rw [wipeE_length, wipe_length, S.len]) fun i s h => ?_
  rcases wipeE_get h with z | ⟨z1, z2⟩
  · exact .inl z
  · exact .inr ⟨z1, wipe_out z2⟩
theorem lockE_length : ∀ {l : Option Nat}, (lockE ρ l).length = ρ.length
  | none => rfl
  | some i => by unfold lockE; rw [List.length_set]
theorem lockE_get {i : Nat} {s : Slot} : ∀ {l : Option Nat}, (lockE ρ l)[i]? = some s → s = .emp ∨ (ρ[i]? = some s ∧ l ≠ some i)
  | none, h => .inr ⟨h, fun e => nomatch e⟩
  | some j, h => by
    unfold lockE at h
    by_cases hj : j = i
    · subst hj
      by_cases hl : j < ρ.length
      · rw [List.getElem?_set_self hl] at h
        exact .inl (Option.some.inj h).symm
      · rw [List.getElem?_eq_none (by simpa using hl)] at h; cases h
    · rw [List.getElem?_set_ne hj] at h
      exact .inr ⟨h, fun e => hj (Option.some.inj e)⟩
theorem SR.lock (S : SR K O H ρ σ) (l : Option Nat) : SR K O H (lockE ρ l) σ ∧ Step O H ρ σ O H (lockE ρ l) σ := by
  refine S.mask (by rw [lockE_length, S.len]) fun i s h => ?_
  rcases lockE_get h with z | ⟨z1, z2⟩
  · exact .inl z
  · exact .inr ⟨z1, rfl⟩
theorem backE_length : ∀ (L : List Nat), (backE ρ1 ρ2 L).length = ρ2.length
  | [] => rfl
  | i :: r => by
    unfold backE
    split
    · rw [List.length_set, backE_length r]
    · rw [backE_length r]
theorem backE_get (hl : ρ1.length = ρ2.length) {i : Nat} {s : Slot} : ∀ {L : List Nat}, (backE ρ1 ρ2 L)[i]? = some s → (i ∈ L ∧ ρ1[i]? = some s) ∨ (i ∉ L ∧ ρ2[i]? = some s)
  | [], h => .inr ⟨by simp, h⟩
  | j :: r, h => by
    unfold backE at h
    split at h
    · rename_i t ht
      by_cases hj : j = i
      · subst hj
        rw [List.getElem?_set_self (by rw [backE_length, ← hl]; exact (List.getElem?_eq_some_iff.mp ht).1)] at h
        cases h
        exact .inl ⟨List.mem_cons_self, ht⟩
      · rw [List.getElem?_set_ne hj] at h
        rcases backE_get hl h with ⟨z1, z2⟩ | ⟨z1, z2⟩
        · exact .inl ⟨List.mem_cons_of_mem _ z1, z2⟩
        · exact .inr ⟨by simp only [List.mem_cons, not_or]; exact ⟨fun e => hj e.symm, z1⟩, z2⟩
    · rename_i hn
      rcases backE_get hl h with ⟨z1, z2⟩ | ⟨z1, z2⟩
      · exact .inl ⟨List.mem_cons_of_mem _ z1, z2⟩
      · by_cases hj : j = i
        · subst hj
          have z : j < ρ2.length := (List.getElem?_eq_some_iff.mp z2).1
          rw [← hl] at z
          rw [List.getElem?_eq_getElem z] at hn
          cases hn
        · exact .inr ⟨by simp only [List.mem_cons, not_or]; exact ⟨fun e => hj e.symm, z1⟩, z2⟩
theorem SR.restore {O0 : Addr → Prop} {H0 : Hp} {vs : List Nat} {l : Option Nat} (S : SR K O H ρ σ) (T0 : Step O H (wipeE (lockE ρ l) vs) (L2.wipe σ vs) O0 H0 (wipeE (lockE ρ l) vs) (L2.wipe σ vs)) (hl : ρ2.length = σ.length)
    (S' : SR K O' H' (wipeE ρ2 vs) (L2.wipe σ vs)) (T : Step O0 H0 (wipeE (lockE ρ l) vs) (L2.wipe σ vs) O' H' (wipeE ρ2 vs) (L2.wipe σ vs)) :
    SR K O' H' (backE ρ ρ2 (vs ++ lockL l)) σ ∧ Step O H ρ σ O' H' (backE ρ ρ2 (vs ++ lockL l)) σ ∧ ∀ k b, Own (backE ρ ρ2 (vs ++ lockL l)) σ k b → Own ρ σ k b ∨ Own (wipeE ρ2 vs) (L2.wipe σ vs) k b := by
  have T := T0.trans T
  have hlen : ρ.length = ρ2.length := by rw [hl, S.len]
  have memL : ∀ {i : Nat}, i ∈ lockL l ↔ l = some i := fun {i} => by
    cases l with
    | none => simp [lockL]
    | some j => simp [lockL, eq_comm]
  have fwd : ∀ k b, Own (wipeE (lockE ρ l) vs) (L2.wipe σ vs) k b → Own ρ σ k b ∧ k ∉ vs ++ lockL l := fun k b ⟨⟨d, e1⟩, e2⟩ => by
    rcases wipeE_get e1 with z | ⟨z1, z2⟩
    · cases z
    · rcases lockE_get z1 with z | ⟨z3, z4⟩
      · cases z
      · rw [wipe_out z2] at e2
        exact ⟨⟨⟨d, z3⟩, e2⟩, fun m => (List.mem_append.mp m).elim z2 fun q => z4 (memL.mp q)⟩
  have m0 : SR K O H (wipeE (lockE ρ l) vs) (L2.wipe σ vs) := ((S.lock l).1.wipe vs).1
  have m : Mono O H O' H' := m0.mono T
  have stay : ∀ i a u, i ∈ vs ++ lockL l → Own ρ σ i a → H a = some u → H' a = some u ∧ (O' a ↔ O a) := fun i a u hi w hu =>
    T.tr a u hu fun k wk => by
      obtain ⟨q1, q2⟩ := fwd k a wk
      have := S.inj i k a w q1
      subst this
      exact q2 hi
  have slot : ∀ i s, i ∉ vs ++ lockL l → ρ2[i]? = some s → (wipeE ρ2 vs)[i]? = some s ∧ (L2.wipe σ vs)[i]? = σ[i]? := fun i s hi e => by
    have : i ∉ vs := fun z => hi (List.mem_append_left _ z)
    exact ⟨by rw [wipeE_not this]; exact e, wipe_out this⟩
  have own : ∀ k b, Own (backE ρ ρ2 (vs ++ lockL l)) σ k b → (k ∈ vs ++ lockL l ∧ Own ρ σ k b) ∨ (k ∉ vs ++ lockL l ∧ Own (wipeE ρ2 vs) (L2.wipe σ vs) k b) := fun k b ⟨⟨d, e1⟩, e2⟩ => by
    rcases backE_get hlen e1 with ⟨z1, z2⟩ | ⟨z1, z2⟩
    · exact .inl ⟨z1, ⟨d, z2⟩, e2⟩
    · obtain ⟨q1, q2⟩ := slot k _ z1 z2
      exact .inr ⟨z1, ⟨d, q1⟩, by rw [q2]; exact e2⟩
  have apart : ∀ i j a, i ∈ vs ++ lockL l → Own ρ σ i a → Own (wipeE ρ2 vs) (L2.wipe σ vs) j a → False := fun i j a hi w w' => by
    obtain ⟨u, hu, _⟩ := S.oc a (S.own w)
    rcases T.ow j a w' with q | q
    · obtain ⟨q1, q2⟩ := fwd j a q
      have := S.inj i j a w q1
      subst this
      exact q2 hi
    · rw [q] at hu; cases hu
  refine ⟨⟨S'.oc, fun i s hs => ?_, fun i j a wi wj => ?_, by rw [backE_length]; exact hl⟩, ⟨fun a o h n => ?_, fun a h => T.dom a h, fun i a w => ?_⟩, fun k b w => (own k b w).imp (·.2) (·.2)⟩
  · rcases backE_get hlen hs with ⟨z1, z2⟩ | ⟨z1, z2⟩
    · have q := S.sl i s z2
      cases s with
      | emp => trivial
      | shr d => obtain ⟨v, e, r⟩ := q; exact ⟨v, e, r.mono m⟩
      | own d =>
        obtain ⟨a, u, e, o, hu, c⟩ := q
        obtain ⟨t1, t2⟩ := stay i a u z1 ⟨⟨d, z2⟩, e⟩ hu
        exact ⟨a, u, e, t2.mpr o, t1, c.mono m⟩
    · obtain ⟨q1, q2⟩ := slot i s z1 z2
      have q := S'.sl i s q1
      cases s with
      | emp => trivial
      | shr d => obtain ⟨v, e, r⟩ := q; exact ⟨v, by rw [← q2]; exact e, r⟩
      | own d => obtain ⟨a, u, e, r⟩ := q; exact ⟨a, u, by rw [← q2]; exact e, r⟩
  · rcases own i a wi with ⟨i1, i2⟩ | ⟨i1, i2⟩
    · rcases own j a wj with ⟨j1, j2⟩ | ⟨j1, j2⟩
      · exact S.inj i j a i2 j2
      · exact (apart i j a i1 i2 j2).elim
    · rcases own j a wj with ⟨j1, j2⟩ | ⟨j1, j2⟩
      · exact (apart j i a j1 j2 i2).elim
      · exact S'.inj i j a i2 j2
  · exact T.tr a o h fun k wk => n k (fwd k a wk).1
  · rcases own i a w with ⟨i1, i2⟩ | ⟨i1, i2⟩
    · exact .inl i2
    · rcases T.ow i a i2 with q | q
      · exact .inl (fwd i a q).1
      · exact .inr q
theorem SR.put (S : SR K O H ρ σ) {i : Nat} {v : V} {s : Slot} (hs : SlotOk K O H (σ.set i (some v)) i s) (ho : ∀ d a, s = .own d → v = .ref a → ∀ k, k ≠ i → ¬ Own ρ σ k a) : SR K O H (ρ.set i s) (σ.set i (some v)) := by
  have hlen : ρ.length = σ.length := S.len
  have get : ∀ k t, (ρ.set i s)[k]? = some t → (k = i ∧ t = s ∧ i < σ.length) ∨ (k ≠ i ∧ ρ[k]? = some t ∧ (σ.set i (some v))[k]? = σ[k]?) := fun k t h => by
    by_cases hk : i = k
    · subst hk
      by_cases hi : i < ρ.length
      · rw [List.getElem?_set_self hi] at h
        exact .inl ⟨rfl, (Option.some.inj h).symm, hlen ▸ hi⟩
      · rw [List.getElem?_eq_none (by simpa using hi)] at h; cases h
    · rw [List.getElem?_set_ne hk] at h
      exact .inr ⟨fun e => hk e.symm, h, List.getElem?_set_ne hk⟩
  have own : ∀ k a, Own (ρ.set i s) (σ.set i (some v)) k a → (k = i ∧ (∃ d, s = .own d) ∧ v = .ref a) ∨ (k ≠ i ∧ Own ρ σ k a) := fun k a ⟨⟨d, e1⟩, e2⟩ => by
    rcases get k _ e1 with ⟨rfl, z2, z3⟩ | ⟨z1, z2, z3⟩
    · rw [List.getElem?_set_self z3] at e2
      cases e2
      exact .inl ⟨rfl, ⟨d, z2.symm⟩, rfl⟩
    · rw [z3] at e2
      exact .inr ⟨z1, ⟨d, z2⟩, e2⟩
  refine ⟨S.oc, fun k t ht => ?_, fun k j a wk wj => ?_, by rw [List.length_set, List.length_set, hlen]⟩
  · rcases get k t ht with ⟨rfl, rfl, _⟩ | ⟨z1, z2, z3⟩
    · exact hs
    · have q := S.sl k t z2
      cases t with
      | emp => trivial
      | shr d => obtain ⟨w, e, r⟩ := q; exact ⟨w, by rw [z3]; exact e, r⟩
      | own d => obtain ⟨a, u, e, r⟩ := q; exact ⟨a, u, by rw [z3]; exact e, r⟩
  · rcases own k a wk with ⟨rfl, ⟨d, e⟩, ev⟩ | ⟨k1, k2⟩
    · rcases own j a wj with ⟨rfl, _, _⟩ | ⟨j1, j2⟩
      · rfl
      · exact absurd j2 (ho d a e ev j j1)
    · rcases own j a wj with ⟨rfl, ⟨d, e⟩, ev⟩ | ⟨j1, j2⟩
      · exact absurd k2 (ho d a e ev k k1)
      · exact S.inj k j a k2 j2
theorem SR.putS (S : SR K O H ρ σ) {i : Nat} {v : V} {d : D} (r : Rp K O H v d) : SR K O H (ρ.set i (.shr d)) (σ.set i (some v)) ∧ Step O H ρ σ O H (ρ.set i (.shr d)) (σ.set i (some v)) := by
  have own : ∀ k a, Own (ρ.set i (.shr d)) (σ.set i (some v)) k a → Own ρ σ k a := fun k a ⟨⟨d', e1⟩, e2⟩ => by
    by_cases hk : i = k
    · subst hk
      by_cases hi : i < ρ.length
      · rw [List.getElem?_set_self hi] at e1; cases e1
      · rw [List.getElem?_eq_none (by simpa using hi)] at e1; cases e1
    · rw [List.getElem?_set_ne hk] at e1 e2
      exact ⟨⟨d', e1⟩, e2⟩
  refine ⟨?_, fun a o h _ => ⟨h, .rfl⟩, fun _ h => h, fun k a w => .inl (own k a w)⟩
  by_cases hi : i < σ.length
  · exact S.put ⟨v, List.getElem?_set_self hi, r⟩ fun _ _ e => nomatch e
  · rw [List.set_eq_of_length_le (by rw [S.len]; simpa using hi), List.set_eq_of_length_le (by simpa using hi)]
    exact S
theorem at_wiped {σ : L2.St} {k : Nat} : ∀ {vs : List Nat}, k < σ.length → k ∈ vs → (L2.wipe σ vs)[k]? = some none
  | [], _, h => by simp at h
  | j :: r, hl, h => by
    unfold L2.wipe
    by_cases hj : j = k
    · subst hj
      exact List.getElem?_set_self (by rw [wipe_length]; exact hl)
    · rw [List.getElem?_set_ne hj]
      exact at_wiped hl ((List.mem_cons.mp h).elim (fun e => absurd e.symm hj) id)
theorem wipe_set {σ : L2.St} {i : Nat} {x : Option V} {vs : List Nat} (h : i ∈ vs) : L2.wipe (σ.set i x) vs = L2.wipe σ vs := by
  apply List.ext_getElem?
  intro k
  by_cases hk : k ∈ vs
  · by_cases hl : k < σ.length
    · rw [at_wiped (by rw [List.length_set]; exact hl) hk, at_wiped hl hk]
    · rw [List.getElem?_eq_none (by rw [wipe_length, List.length_set]; omega), List.getElem?_eq_none (by rw [wipe_length]; omega)]
  · rw [wipe_out hk, wipe_out hk, List.getElem?_set_ne (fun e => hk (by rw [← e]; exact h))]
def gsOf : List Nat → TGs
  | [] => gNil
  | i :: r => gCons (gName i) (gsOf r)
def gOf (K : PySem.W.Frag) : Tg → TG
  | .nm i => gName i
  | .tp is => gTup K is.length (gsOf is)
theorem gs_ok {Q : L2.St → Hp → Prop} : ∀ {is : List Nat} {xs : List V} {ds : List D} {ρ : Env} {σ : L2.St}, SR K O H ρ σ → is.length = ds.length → RpL K O H xs ds →
    (∀ σ', SR K O H ((is.zip ds).foldl (fun r p => r.set p.1 (.shr p.2)) ρ) σ' → Step O H ρ σ O H ((is.zip ds).foldl (fun r p => r.set p.1 (.shr p.2)) ρ) σ' → (∀ vs, (∀ i ∈ is, i ∈ vs) → L2.wipe σ' vs = L2.wipe σ vs) → Q σ' H) → gsOf is xs σ H Q
  | [], xs, ds, ρ, σ, S, hl, r, q => by
    cases ds with
    | nil => cases r; exact ⟨rfl, q σ S Step.refl fun _ _ => rfl⟩
    | cons d ds => cases hl
  | i :: is, xs, ds, ρ, σ, S, hl, r, q => by
    cases ds with
    | nil => cases hl
    | cons d ds =>
      cases r with
      | @cons v _ vs _ r1 r2 =>
        obtain ⟨S1, T1⟩ := S.putS (i := i) r1
        refine ⟨v, vs, rfl, gs_ok (ds := ds) S1 (by simpa using hl) r2 fun σ' S' T' w => q σ' S' (T1.trans T') fun ws hw => ?_⟩
        rw [w ws fun j hj => hw j (List.mem_cons_of_mem _ hj)]
        exact wipe_set (hw i List.mem_cons_self)
def tgL : Tg → List Nat
  | .nm i => [i]
  | .tp is => is
theorem g_ok {Q : L2.St → Hp → Prop} {tg : Tg} {v : V} {d : D} {ρ' : Env} (S : SR K O H ρ σ) (r : Rp K O H v d) (e : setT tg d ρ = some ρ')
    (q : ∀ σ', SR K O H ρ' σ' → Step O H ρ σ O H ρ' σ' → (∀ vs, (∀ i ∈ tgL tg, i ∈ vs) → L2.wipe σ' vs = L2.wipe σ vs) → Q σ' H) : gOf K tg v σ H Q := by
  cases tg with
  | nm i =>
    cases e
    obtain ⟨S1, T1⟩ := S.putS (i := i) r
    exact q _ S1 T1 fun vs hv => wipe_set (hv i (by simp [tgL]))
  | tp is =>
    cases d with
    | tuple ds =>
      unfold setT at e
      simp only at e
      split at e
      · rename_i hl
        cases e
        obtain ⟨a, xs, rfl, ha, rx⟩ := r.rq.tup
        exact ⟨a, xs, rfl, .of ha, by rw [rx.length, hl], gs_ok S hl rx q⟩
      · cases e
    | _ => cases e
end
end Mi
end
section
namespace Mi
open PySem PySem.Spec L2
def YldR (K : PySem.W.Frag) (O : Addr → Prop) (H : Hp) (x : V) (H' : Hp) (d : D) : Prop :=
  (H' = H ∧ Rp K O H x d) ∨ ∃ T vs es, x = .ref T ∧ H T = none ∧ H' = upd H T (.tup vs) ∧ d = .tuple es ∧ RpL K O H vs es
def Kpt (kp : Addr → Prop) (H H' : Hp) : Prop := ∀ a u, kp a → H a = some u → H' a = some u
structure Wlk (K : PySem.W.Frag) (J : It) (O : Addr → Prop) (H : Hp) (kp : Addr → Prop) (ds : List D) : Prop where
  goes : ∀ i O1 H1, Mono O H O1 H1 → Kpt kp H H1 → i < ds.length → J.go i H1
  stops : ∀ O1 H1, Mono O H O1 H1 → Kpt kp H H1 → J.stop ds.length H1
  ylds : ∀ i O1 H1 x H2 d, Mono O H O1 H1 → Kpt kp H H1 → ds[i]? = some d → J.yld i H1 x H2 → YldR K O1 H1 x H2 d
section
variable {K : PySem.W.Frag} {O : Addr → Prop} {H : Hp} {kp : Addr → Prop} {ds es : List D} {a b : Addr} {xs ys : List V}
theorem wlk_list (h : ∀ O1 H1, Mono O H O1 H1 → Kpt kp H H1 → SqL K H1 a xs) (r : RpL K O H xs ds) : Wlk K (Itl K a) O H kp ds where
  goes := fun i O1 H1 m k hi => ⟨xs, xs[i]'(by rw [r.length]; exact hi), h O1 H1 m k, by simp⟩
  stops := fun O1 H1 m k => ⟨xs, h O1 H1 m k, by rw [r.length]; exact Nat.le_refl _⟩
  ylds := fun i O1 H1 x H2 d m k e y => by
    obtain ⟨rfl, y⟩ := y
    obtain ⟨v, ev, rv⟩ := r.get e
    have q := y xs (h O1 H2 m k)
    rw [ev] at q; cases q
    exact .inl ⟨rfl, rv.mono m⟩
theorem wlk_tup (h : ∀ O1 H1, Mono O H O1 H1 → Kpt kp H H1 → SqT K H1 a xs) (r : RpL K O H xs ds) : Wlk K (Itt K a) O H kp ds where
  goes := fun i O1 H1 m k hi => ⟨xs, xs[i]'(by rw [r.length]; exact hi), h O1 H1 m k, by simp⟩
  stops := fun O1 H1 m k => ⟨xs, h O1 H1 m k, by rw [r.length]; exact Nat.le_refl _⟩
  ylds := fun i O1 H1 x H2 d m k e y => by
    obtain ⟨rfl, y⟩ := y
    obtain ⟨v, ev, rv⟩ := r.get e
    have q := y xs (h O1 H2 m k)
    rw [ev] at q; cases q
    exact .inl ⟨rfl, rv.mono m⟩
theorem wlk_str {z : Str} : Wlk K (Its z) O H kp (z.cps.toList.map fun c => .str ⟨#[c]⟩) where
  goes := fun i O1 H1 m k hi => by simpa [Its] using hi
  stops := fun O1 H1 m k => by simp [Its]
  ylds := fun i O1 H1 x H2 d m k e y => by
    obtain ⟨rfl, c, ec, rfl⟩ := y
    rw [List.getElem?_map] at e
    obtain ⟨c', e1, rfl⟩ := Option.map_eq_some_iff.mp e
    rw [Array.getElem?_toList, ec] at e1
    cases e1
    exact .inl ⟨rfl, .str _⟩
theorem wlk_range {lo : Int} {n : Nat} : Wlk K (Itr lo n) O H kp (rngD lo n) where
  goes := fun i O1 H1 m k hi => by simpa [rngD, Itr] using hi
  stops := fun O1 H1 m k => by simp [Itr, rngD]
  ylds := fun i O1 H1 x H2 d m k e y => by
    obtain ⟨rfl, rfl⟩ := y
    unfold rngD at e
    rw [List.getElem?_map] at e
    obtain ⟨j, e1, rfl⟩ := Option.map_eq_some_iff.mp e
    have : j = i := by
      rw [List.getElem?_range (by have := (List.getElem?_eq_some_iff.mp e1).1; simpa using this)] at e1
      exact (Option.some.inj e1).symm
    subst this
    exact .inl ⟨rfl, .int _⟩
theorem wlk_down {lo : Int} {n : Nat} : Wlk K (Itc lo (-1) n) O H kp (rngDn lo n) where
  goes := fun i O1 H1 m k hi => by simpa [rngDn, Itc] using hi
  stops := fun O1 H1 m k => by simp [Itc, rngDn]
  ylds := fun i O1 H1 x H2 d m k e y => by
    obtain ⟨rfl, rfl⟩ := y
    unfold rngDn at e
    rw [List.getElem?_map] at e
    obtain ⟨j, e1, rfl⟩ := Option.map_eq_some_iff.mp e
    have : j = i := by
      rw [List.getElem?_range (by have := (List.getElem?_eq_some_iff.mp e1).1; simpa using this)] at e1
      exact (Option.some.inj e1).symm
    subst this
    have : lo + (j : Int) * (-1) = lo - (j : Int) := by omega
    rw [this]
    exact .inl ⟨rfl, .int _⟩
end
theorem itemsW_dict {kvs : List (D × D)} {xs : List D} (z : itemsW (.dict kvs) = some xs) : kvs = [(.none, .list xs)] := by
  have z : scrOf kvs = some xs := z
  unfold scrOf at z
  split at z
  · cases z; rfl
  · cases z
def kpOf (ρ : Env) (σ : L2.St) (l : Option Nat) : Addr → Prop := fun a => ∃ i, l = some i ∧ Own ρ σ i a
def tI (R : Rt) (W : WX) (c : CE) : TI := fun σ H Rr => ∃ O ρ, SR R.K O H ρ σ ∧ Ans R W σ O H ρ (evI R.cf c ρ) (fun xl ρ' O' H' => ∀ J, Wlk R.K J O' H' (kpOf ρ' σ xl.2) xl.1 → Rr J H')
theorem pi_wk {X : Cx} {tg e : Expr} {t t' : TI} (h : PI X tg e t) (k : ∀ σ H Q, t' σ H Q → t σ H Q) : PI X tg e t' := ⟨fun pins s σ H Q I q => h.run pins s σ H Q I (k σ H Q q)⟩
section
variable {X : Cx} {R : Rt} {W : WX} {e a b : Expr} {c ca cb : CE} {tg : Expr} {p pos : Pos}
theorem mi_walk (hK : X.K = R.K) (h : PE X e (tO R W c)) : PI X tg e (fun σ H Rr => ∃ O ρ, SR R.K O H ρ σ ∧ Ans R W σ O H ρ (walkV c (evE R.cf c) ρ) (fun xl ρ' O' H' => ∀ J, Wlk R.K J O' H' (kpOf ρ' σ xl.2) xl.1 → Rr J H')) := by
  refine ⟨fun pins s σ H Q I ⟨O, ρ, S, A⟩ => ?_⟩
  have L := pi_list (tg := tg) h
  have T := pi_tup (tg := tg) h
  have Z := pi_str (tg := tg) h
  rw [hK] at L T
  cases e1 : opd c (evE R.cf c) ρ with
  | bad => unfold walkV at A; rw [e1] at A; exact A.elim
  | exc x ρ' =>
    unfold walkV at A; rw [e1] at A
    exact L.run pins s σ H Q I ⟨O, ρ, S, by rw [e1]; exact A⟩
  | ok o ρ1 =>
    unfold walkV at A; rw [e1] at A
    simp only [Out.bind] at A
    cases o with
    | wr ds => exact A.elim
    | val d =>
      obtain ⟨xl, ex, A⟩ := A.lift
      obtain ⟨xs, ew, rfl⟩ := Option.map_eq_some_iff.mp ex
      cases d with
      | none => cases ew
      | bool _ => cases ew
      | int _ => cases ew
      | list ds =>
        cases ew
        refine L.run pins s σ H Q I ⟨O, ρ, S, ?_⟩
        rw [e1]
        intro O1 H1 S1 T1 v hv
        obtain ⟨a, zs, rfl, ha, ra⟩ := (show Rp R.K O1 H1 v (.list _) from hv).rq.list
        have nO : ¬ O1 a := by
          cases hv with
          | box n _ _ => exact n
        exact ⟨a, rfl, ⟨zs, .of ha⟩, A O1 H1 S1 T1 _ (wlk_list (fun O2 H2 m _ => .of (m.box a _ nO rfl (.inl ha)).1.lst) ra)⟩
      | tuple ds =>
        cases ew
        refine T.run pins s σ H Q I ⟨O, ρ, S, ?_⟩
        rw [e1]
        intro O1 H1 S1 T1 v hv
        obtain ⟨a, zs, rfl, ha, ra⟩ := (show Rp R.K O1 H1 v (.tuple _) from hv).rq.tup
        exact ⟨a, rfl, ⟨zs, .of ha⟩, A O1 H1 S1 T1 _ (wlk_tup (fun O2 H2 m _ => .of (m.tup a _ ha)) ra)⟩
      | str z =>
        cases ew
        refine Z.run pins s σ H Q I ⟨O, ρ, S, ?_⟩
        rw [e1]
        intro O1 H1 S1 T1 v hv
        exact ⟨z, (show Rp R.K O1 H1 v (.str _) from hv).rq.str, A O1 H1 S1 T1 _ wlk_str⟩
      | dict kvs =>
        have ek := itemsW_dict ew
        subst ek
        refine L.run pins s σ H Q I ⟨O, ρ, S, ?_⟩
        rw [e1]
        intro O1 H1 S1 T1 v hv
        obtain ⟨a, zs, rfl, ha, ra⟩ := (show Rp R.K O1 H1 v (.dict _) from hv).rq.scr
        exact ⟨a, rfl, ⟨zs, ha.sq⟩, A O1 H1 S1 T1 _ (wlk_list (fun O2 H2 m _ => SqF.sq (ha.imp (fun ⟨o, e⟩ => ⟨o, m.frz a o _ e⟩) id)) ra)⟩
    | «at» i =>
      simp only at A
      split at A
      · rename_i xs hs
        refine L.run pins s σ H Q I ⟨O, ρ, S, ?_⟩
        rw [e1]
        intro O1 H1 S1 T1 v hv
        obtain ⟨a, u, ea, oa, hu, ct⟩ := S1.sl i _ hs
        have hv : σ[i]? = some (some v) := hv
        rw [ea] at hv; cases hv
        cases ct with
        | lst ra =>
          refine ⟨a, rfl, ⟨_, .of hu⟩, A O1 H1 S1 T1 _ (wlk_list (fun O2 H2 m k => .of (k a _ ⟨i, rfl, ⟨_, hs⟩, ea⟩ hu)) ra)⟩
      · exact A.elim
theorem le_eq {P : Prop} {x y : Out (List D × Option Nat)} {σ : L2.St} {O : Addr → Prop} {H : Hp} {ρ : Env} {C : (List D × Option Nat) → Env → (Addr → Prop) → Hp → Prop} (e : x = y) (A : Ans R W σ O H ρ x C) : Ans R W σ O H ρ y C := e ▸ A
theorem mi_val (hK : X.K = R.K) (h : PE X e (tO R W c)) (hv : ∀ ρ, evI R.cf c ρ = walkV c (evE R.cf c) ρ) : PI X tg e (tI R W c) :=
  pi_wk (mi_walk hK h) fun σ H Q ⟨O, ρ, S, A⟩ => ⟨O, ρ, S, by rw [← hv]; exact A⟩
theorem tA_1 {σ : L2.St} {H : Hp} {Q : List V → Hp → Prop} (h : tE R W c σ H fun v H1 => Q [v] H1) : (fun σ H (Q : List V → Hp → Prop) => tE R W c σ H fun v H1 => Q [v] H1) σ H Q := h
theorem rngOk_of {i : Int} (h : rngOk i = true) : -(2 ^ 62) ≤ i ∧ i < 2 ^ 62 := by
  unfold rngOk at h
  simpa [Bool.and_eq_true] using h
theorem mi_rng1 (hg : Gl X "range") (hm : X.mg "range" = none) (ha : PE X a (tE R W ca)) (hp : plainE a = true) : PI X tg (.Call (.Name "range" p) [a] [] pos) (tI R W (.rng1 ca)) := by
  refine pi_wk (pi_range1 hg hm (pa_cons ha pa_nil (star_of hp)) (star1 hp)) fun σ H Q ⟨O, ρ, S, A⟩ => ?_
  rw [evI] at A
  refine tE_val S (A.bind fun r ρ1 O1 H1 S1 T1 A1 O1 S1 T1 x hx => ?_)
  obtain ⟨xl, e, A2⟩ := A1.lift
  obtain ⟨j, ej, e2⟩ := Option.bind_eq_some_iff.mp e
  split at e2
  · rename_i ok
    cases e2
    obtain ⟨fl, d⟩ := r
    cases d with
    | int i =>
      cases ej
      have := rngOk_of ok
      exact ⟨j, by rw [hx.rq.int], this.1, this.2, A2 O1 H1 S1 T1 _ wlk_range⟩
    | _ => cases ej
  · cases e2
theorem mi_rng2 (hg : Gl X "range") (hm : X.mg "range" = none) (ha : PE X a (tE R W ca)) (hb : PE X b (tE R W cb)) (hp : plainE a = true) (hq : plainE b = true) : PI X tg (.Call (.Name "range" p) [a, b] [] pos) (tI R W (.rng2 ca cb)) := by
  refine pi_wk (pi_range2 hg hm (pa_cons ha (pa_cons hb pa_nil (star_of hq)) (star_of hp)) (by rw [star_of hp, star1 hq]) (star1 hq)) fun σ H Q ⟨O, ρ, S, A⟩ => ?_
  rw [evI] at A
  refine tE_val S (A.bind fun r ρ1 O1 H1 S1 T1 A1 O1 S1 T1 x hx => ?_)
  refine tE_val S1 ((A1.rebase T1).bind fun r2 ρ2 O2 H2 S2 T2 A2 O2 S2 T2 y hy => ?_)
  obtain ⟨xl, e, A3⟩ := A2.lift
  obtain ⟨i, ei, e2⟩ := Option.bind_eq_some_iff.mp e
  obtain ⟨j, ej, e3⟩ := Option.bind_eq_some_iff.mp e2
  split at e3
  · rename_i ok
    cases e3
    obtain ⟨fl, d⟩ := r
    obtain ⟨fl2, d2⟩ := r2
    cases d with
    | int _ =>
      cases ei
      cases d2 with
      | int _ =>
        cases ej
        have h1 := rngOk_of ok.1
        have h2 := rngOk_of ok.2
        exact ⟨i, j, by rw [hx.rq.int, hy.rq.int], ⟨h1.1, h1.2, h2.1, h2.2⟩, A3 O2 H2 S2 T2 _ wlk_range⟩
      | _ => cases ej
    | _ => cases ei
  · cases e3
theorem mi_rng3 {d : Expr} {cd : CE} (hg : Gl X "range") (hm : X.mg "range" = none) (ha : PE X a (tE R W ca)) (hb : PE X b (tE R W cb)) (hd : PE X d (tE R W cd)) (hp : plainE a = true) (hq : plainE b = true) (hr : plainE d = true) : PI X tg (.Call (.Name "range" p) [a, b, d] [] pos) (tI R W (.rng3 ca cb cd)) := by
  refine pi_wk (pi_range3 hg hm (pa_cons ha (pa_cons hb (pa_cons hd pa_nil (star_of hr)) (star_of hq)) (star_of hp)) (star_of hp) (by rw [star_of hq, star1 hr]; rfl)) fun σ H Q ⟨O, ρ, S, A⟩ => ?_
  rw [evI] at A
  refine tE_val S (A.bind fun r ρ1 O1 H1 S1 T1 A1 O1 S1 T1 x hx => ?_)
  refine tE_val S1 ((A1.rebase T1).bind fun r2 ρ2 O2 H2 S2 T2 A2 O2 S2 T2 y hy => ?_)
  refine tE_val S2 ((A2.rebase T2).bind fun r3 ρ3 O3 H3 S3 T3 A3 O3 S3 T3 z hz => ?_)
  obtain ⟨xl, e, A4⟩ := A3.lift
  obtain ⟨i, ei, e2⟩ := Option.bind_eq_some_iff.mp e
  obtain ⟨j, ej, e3⟩ := Option.bind_eq_some_iff.mp e2
  obtain ⟨k, ek, e4⟩ := Option.bind_eq_some_iff.mp e3
  split at e4
  · rename_i ok
    cases e4
    obtain ⟨fl, d⟩ := r
    obtain ⟨fl2, d2⟩ := r2
    obtain ⟨fl3, d3⟩ := r3
    cases d with
    | int _ =>
      cases ei
      cases d2 with
      | int _ =>
        cases ej
        cases d3 with
        | int _ =>
          cases ek
          obtain ⟨rfl, ok1, ok2⟩ := ok
          have h1 := rngOk_of ok1
          have h2 := rngOk_of ok2
          exact ⟨i, j, -1, _, by rw [hx.rq.int, hy.rq.int, hz.rq.int], RgC.neg h1.1 h1.2 h2.1 h2.2, A4 O3 H3 S3 T3 _ wlk_down⟩
        | _ => cases ek
      | _ => cases ej
    | _ => cases ei
  · cases e4
end
end Mi
end
section
namespace Mi
open PySem PySem.Spec L2
def hidO (O : Addr → Prop) (D : Addr) : Addr → Prop := fun a => O a ∧ a ≠ D
def hidH (H : Hp) (D : Addr) : Hp := fun a => if a = D then none else H a
section
variable {K : PySem.W.Frag} {O O' O1 O2 : Addr → Prop} {H H' H1 H2 : Hp} {ρ ρ' ρ1 ρ2 : Env} {σ σ' σ1 σ2 : L2.St} {D : Addr} {u : HO}
theorem hidH_ne {a : Addr} (h : a ≠ D) : hidH H D a = H a := if_neg h
theorem hidH_same : hidH H D D = none := if_pos rfl
theorem hidH_some {a : Addr} {o : HO} (h : hidH H D a = some o) : a ≠ D ∧ H a = some o := by
  by_cases e : a = D
  · subst e; rw [hidH_same] at h; cases h
  · rw [hidH_ne e] at h; exact ⟨e, h⟩
theorem cont_ne {o : HO} {a : Addr} (hD : H D = some u) (hc : cont u = true) (h : H a = some o) (n : cont o = false) : a ≠ D := fun e => by
  subst e; rw [hD] at h; cases h; rw [hc] at n; cases n
theorem Mono.hid (oD : O D) (hD : H D = some u) (hc : cont u = true) : Mono O H (hidO O D) (hidH H D) where
  box := fun a w n c r => by
    have ne : a ≠ D := fun e => n (e ▸ oD)
    refine ⟨?_, fun z => n z.1⟩
    unfold Rl
    rw [hidH_ne ne]
    exact r
  tup := fun a xs r => by rw [hidH_ne (cont_ne hD hc r rfl)]; exact r
  frz := fun a o w r => by rw [hidH_ne (cont_ne hD hc r rfl)]; exact r
theorem Mono.unhid (m : Mono (hidO O D) (hidH H D) O' H') (oD : O D) (hD : H D = some u) (hc : cont u = true) : Mono O H O' H' := (Mono.hid oD hD hc).trans m
theorem SR.hid (S : SR K O H ρ σ) (oD : O D) (hD : H D = some u) (hc : cont u = true) (nw : ∀ i, ¬ Own ρ σ i D) : SR K (hidO O D) (hidH H D) ρ σ := by
  have m := Mono.hid oD hD hc
  refine ⟨fun a oa => ?_, fun i s hs => ?_, S.inj, S.len⟩
  · rw [hidH_ne oa.2]; exact S.oc a oa.1
  · have q := S.sl i s hs
    cases s with
    | emp => trivial
    | shr d => obtain ⟨v, e, r⟩ := q; exact ⟨v, e, r.mono m⟩
    | own d =>
      obtain ⟨a, w, e, o, h, c⟩ := q
      have ne : a ≠ D := fun z => nw i (z ▸ ⟨⟨d, hs⟩, e⟩)
      exact ⟨a, w, e, ⟨o, ne⟩, by rw [hidH_ne ne]; exact h, c.mono m⟩
theorem Step.hid {Ob : Addr → Prop} {Hb : Hp} {ρb : Env} {σb : L2.St} (T : Step Ob Hb ρb σb O H ρ σ) (nb : Hb D = Option.none) (T' : Step (hidO O D) (hidH H D) ρ σ O' H' ρ' σ') : Step Ob Hb ρb σb O' H' ρ' σ' where
  tr := fun a o h n => by
    obtain ⟨h1, e1⟩ := T.tr a o h n
    have ne : a ≠ D := fun e => by subst e; rw [nb] at h; cases h
    have nw : ∀ i, ¬ Own ρ σ i a := fun i w => by
      rcases T.ow i a w with q | q
      · exact n i q
      · rw [q] at h; cases h
    obtain ⟨h2, e2⟩ := T'.tr a o (by rw [hidH_ne ne]; exact h1) nw
    exact ⟨h2, e2.trans ⟨fun z => e1.mp z.1, fun z => ⟨e1.mpr z, ne⟩⟩⟩
  dom := fun a h => T'.dom a (by
    have ne : a ≠ D := fun e => h (e ▸ nb)
    rw [hidH_ne ne]; exact T.dom a h)
  ow := fun i a w => by
    rcases T'.ow i a w with q | q
    · exact T.ow i a q
    · by_cases ne : a = D
      · exact .inr (ne ▸ nb)
      · rw [hidH_ne ne] at q
        exact .inr (T.none q)
theorem Step.unhid (T : Step O H ρ σ O' H' ρ' σ') (nw' : ∀ i, ¬ Own ρ' σ' i D → True) : Step (hidO O D) (hidH H D) ρ σ O' H' ρ' σ' where
  tr := fun a o h n => by
    obtain ⟨ne, h⟩ := hidH_some h
    obtain ⟨h1, e1⟩ := T.tr a o h n
    exact ⟨h1, e1.trans ⟨fun z => ⟨z, ne⟩, fun z => z.1⟩⟩
  dom := fun a h => by
    cases e : hidH H D a with
    | none => exact absurd e h
    | some o => exact T.dom a (by rw [(hidH_some e).2]; intro z; cases z)
  ow := fun i a w => by
    rcases T.ow i a w with q | q
    · exact .inl q
    · refine .inr ?_
      by_cases ne : a = D
      · rw [ne, hidH_same]
      · rw [hidH_ne ne]; exact q
theorem Step.hid2 (T : Step (hidO O D) (hidH H D) ρ σ O1 H1 ρ1 σ1) (T' : Step (hidO O1 D) (hidH H1 D) ρ1 σ1 O2 H2 ρ2 σ2) : Step (hidO O D) (hidH H D) ρ σ O2 H2 ρ2 σ2 := T.hid hidH_same T'
theorem SR.poke (S : SR K O H ρ σ) (oD : O D) (hD : H D = some u) (hc : cont u = true) (nw : ∀ i, ¬ Own ρ σ i D) {u' : HO} (hc' : cont u' = true) :
    SR K O (upd H D u') ρ σ ∧ Step (hidO O D) (hidH H D) ρ σ O (upd H D u') ρ σ ∧ Mono O H O (upd H D u') := by
  have m : Mono O H O (upd H D u') := ⟨fun a w n c r => by
    have ne : a ≠ D := fun e => n (e ▸ oD)
    unfold Rl
    rw [upd_ne ne]
    exact ⟨r, n⟩, fun a xs r => by rw [upd_ne (cont_ne hD hc r rfl)]; exact r, fun a o w r => by rw [upd_ne (cont_ne hD hc r rfl)]; exact r⟩
  refine ⟨⟨fun a oa => ?_, fun i s hs => ?_, S.inj, S.len⟩, ⟨fun a o h n => ?_, fun a h => ?_, fun i a w => .inl w⟩, m⟩
  · by_cases e : a = D
    · subst e; exact ⟨u', upd_same, hc'⟩
    · rw [upd_ne e]; exact S.oc a oa
  · have q := S.sl i s hs
    cases s with
    | emp => trivial
    | shr d => obtain ⟨v, e, r⟩ := q; exact ⟨v, e, r.mono m⟩
    | own d =>
      obtain ⟨a, w, e, o, h, c⟩ := q
      have ne : a ≠ D := fun z => nw i (z ▸ ⟨⟨d, hs⟩, e⟩)
      exact ⟨a, w, e, o, by rw [upd_ne ne]; exact h, c.mono m⟩
  · obtain ⟨ne, h⟩ := hidH_some h
    exact ⟨by rw [upd_ne ne]; exact h, ⟨fun z => ⟨z, ne⟩, fun z => z.1⟩⟩
  · by_cases e : a = D
    · subst e; exact absurd hidH_same h
    · rw [upd_ne e]; rw [hidH_ne e] at h; exact h
theorem Step.at (T : Step O H ρ σ O' H' ρ' σ') (oD : O D) (hD : H D = some u) (nw : ∀ i, ¬ Own ρ σ i D) : O' D ∧ H' D = some u ∧ ∀ i, ¬ Own ρ' σ' i D := by
  obtain ⟨h, e⟩ := T.tr D u hD nw
  refine ⟨e.mpr oD, h, fun i w => ?_⟩
  rcases T.ow i D w with q | q
  · exact nw i q
  · rw [q] at hD; cases hD
end
theorem Wlk.later {K : PySem.W.Frag} {J : It} {O O1 : Addr → Prop} {H H1 : Hp} {kp kp' : Addr → Prop} {ds : List D} (w : Wlk K J O H kp ds) (m : Mono O H O1 H1) (k : Kpt kp H H1) (e : ∀ a, kp a → kp' a) : Wlk K J O1 H1 kp' ds :=
  ⟨fun i O2 H2 m' k' hi => w.goes i O2 H2 (m.trans m') (fun a u z h => k' a u (e a z) (k a u z h)) hi, fun O2 H2 m' k' => w.stops O2 H2 (m.trans m') (fun a u z h => k' a u (e a z) (k a u z h)),
    fun i O2 H2 x H3 d m' k' => w.ylds i O2 H2 x H3 d (m.trans m') (fun a u z h => k' a u (e a z) (k a u z h))⟩
theorem YldR.go {K : PySem.W.Frag} {O : Addr → Prop} {H H' : Hp} {x : V} {d : D} {ρ : Env} {σ : L2.St} (y : YldR K O H x H' d) (S : SR K O H ρ σ) : SR K O H' ρ σ ∧ Step O H ρ σ O H' ρ σ ∧ Rp K O H' x d := by
  rcases y with ⟨rfl, r⟩ | ⟨T, vs, es, rfl, hT, rfl, rfl, r⟩
  · exact ⟨S, Step.refl, r⟩
  · obtain ⟨S1, T1, m⟩ := S.lay (u := .tup vs) hT
    exact ⟨S1, T1, .tup upd_same (r.mono m)⟩
structure Ac (K : PySem.W.Frag) (α : Type) where
  AR : (Addr → Prop) → Hp → HO → List α → Prop
  Lim : List α → Prop
  mono : ∀ {O O' : Addr → Prop} {H H' : Hp} {u : HO} {ys : List α}, Mono O H O' H' → AR O H u ys → AR O' H' u ys
  ct : ∀ {O : Addr → Prop} {H : Hp} {u : HO} {ys : List α}, AR O H u ys → cont u = true
  pre : ∀ {a b : List α}, Lim (a ++ b) → Lim a
section
variable {R : Rt} {α : Type} {ac : Ac R.K α} {D : Addr}
def TurnOk (R : Rt) (ac : Ac R.K α) (D : Addr) (f : Env → Out (List α)) (rd : (Hp → Prop) → L2.St → Hp → Prop) : Prop :=
  ∀ Nx σ H O ρ u ys zs ρ2, SR R.K O H ρ σ → O D → (∀ i, ¬ Own ρ σ i D) → H D = some u → ac.AR O H u ys → ac.Lim (ys ++ zs) → f ρ = .ok zs ρ2 →
    (∀ O' H' u', SR R.K O' H' ρ2 σ → Step (hidO O D) (hidH H D) ρ σ O' H' ρ2 σ → O' D → (∀ i, ¬ Own ρ2 σ i D) → H' D = some u' → ac.AR O' H' u' (ys ++ zs) → Nx H') → rd Nx σ H
def LoopR (J : It) (Done : Hp → Prop) (tr : (Hp → Prop) → V → Hp → Prop) (H0 : Hp) : Prop :=
  ∃ W : Nat → Nat → Hp → Prop, (∃ m, W 0 m H0) ∧ ∀ i m H, W i m H → (J.stop i H ∧ Done H) ∨ (J.go i H ∧ ∃ Nx : Hp → Prop, (∀ H', Nx H' → ∃ m', m' < m ∧ W (i + 1) m' H') ∧ ∀ x H', J.yld i H x H' → tr Nx x H')
theorem loop_ok {f : Env → Out (List α)} {rd : (Hp → Prop) → L2.St → Hp → Prop} {J : It} {O : Addr → Prop} {H : Hp} {ρ ρ3 : Env} {σ : L2.St} {l : Option Nat} {xs : List Mi.D} {vs : List Nat} {tg : Tg} {u : HO} {ys zs : List α} {Done : Hp → Prop}
    (tk : TurnOk R ac D f rd) (S : SR R.K O H ρ σ) (oD : O D) (nw : ∀ i, ¬ Own ρ σ i D) (hD : H D = some u) (ar : ac.AR O H u ys) (lim : ac.Lim (ys ++ zs)) (w : Wlk R.K J O H (kpOf ρ σ l) xs)
    (hv : ∀ i ∈ tgL tg, i ∈ vs) (ev : blkV vs tg f (xs, l) ρ = .ok zs ρ3)
    (done : ∀ O' H' u', SR R.K O' H' ρ3 σ → Step (hidO O D) (hidH H D) ρ σ O' H' ρ3 σ → O' D → (∀ i, ¬ Own ρ3 σ i D) → H' D = some u' → ac.AR O' H' u' (ys ++ zs) → Done H') :
    LoopR J Done (fun Nx x H' => gOf R.K tg x (L2.wipe σ vs) H' fun σ2 H2 => L2.wipe σ2 vs = L2.wipe σ vs ∧ rd Nx σ2 H2) H := by
  have hc := ac.ct ar
  have Sh := S.hid oD hD hc nw
  unfold blkV at ev
  simp only at ev
  cases et : turns tg vs f xs (lockE ρ l) with
  | bad => rw [et] at ev; cases ev
  | exc x ρ' => rw [et] at ev; cases ev
  | ok zs' ρ2 =>
    rw [et] at ev
    cases ev
    have S0 := ((S.lock l).1.wipe vs)
    have own0 : ∀ k b, Own (wipeE (lockE ρ l) vs) (L2.wipe σ vs) k b → Own ρ σ k b ∧ l ≠ some k := fun k b ⟨⟨d, e1⟩, e2⟩ => by
      rcases wipeE_get e1 with z | ⟨z1, z2⟩
      · cases z
      · rcases lockE_get z1 with z | ⟨z3, z4⟩
        · cases z
        · rw [wipe_out z2] at e2
          exact ⟨⟨⟨d, z3⟩, e2⟩, z4⟩
    let P : Nat → Hp → Prop := fun i H' => ∃ O' ρ' u' ws ts, SR R.K O' H' (wipeE ρ' vs) (L2.wipe σ vs) ∧ Step (hidO O D) (hidH H D) (wipeE (lockE ρ l) vs) (L2.wipe σ vs) O' H' (wipeE ρ' vs) (L2.wipe σ vs) ∧ O' D ∧ (∀ i, ¬ Own (wipeE ρ' vs) (L2.wipe σ vs) i D) ∧
      H' D = some u' ∧ ac.AR O' H' u' (ys ++ ws) ∧ turns tg vs f (xs.drop i) ρ' = .ok ts ρ2 ∧ ws ++ ts = zs ∧ ρ'.length = σ.length
    have nw0 : ∀ i, ¬ Own (wipeE (lockE ρ l) vs) (L2.wipe σ vs) i D := fun i z => nw i (own0 i D z).1
    have later : ∀ {O' : Addr → Prop} {H' : Hp} {ρ' : Env}, Step (hidO O D) (hidH H D) (wipeE (lockE ρ l) vs) (L2.wipe σ vs) O' H' (wipeE ρ' vs) (L2.wipe σ vs) → Mono O H O' H' ∧ Kpt (kpOf ρ σ l) H H' := fun {O' H' ρ'} T => by
      have Sw := S0.1.hid oD hD hc nw0
      refine ⟨(Sw.mono T).unhid oD hD hc, fun a o ka ha => ?_⟩
      obtain ⟨i, hi, wi⟩ := ka
      have ne : a ≠ D := fun e => nw i (e ▸ wi)
      refine (T.tr a o (by rw [hidH_ne ne]; exact ha) fun k z => ?_).1
      obtain ⟨q1, q2⟩ := own0 k a z
      exact q2 (by rw [S.inj k i a q1 wi]; exact hi)
    refine ⟨fun i m H' => m = xs.length - i ∧ i ≤ xs.length ∧ P i H', ⟨xs.length, by simp, Nat.zero_le _, O, lockE ρ l, u, [], zs, S0.1, Step.unhid Step.refl (fun _ _ => trivial), oD, nw0, hD, by simpa using ar, by simpa using et, rfl, by rw [lockE_length, S.len]⟩, ?_⟩
    rintro i m H' ⟨rfl, hi, O', ρ', u', ws, ts, S', T', oD', nw', hD', ar', et', eq', hl'⟩
    obtain ⟨mo, kp⟩ := later T'
    by_cases hlt : i < xs.length
    · refine .inr ⟨w.goes i O' H' mo kp hlt, P (i + 1), fun H'' p => ⟨xs.length - (i + 1), by omega, rfl, hlt, p⟩, fun x H'' y => ?_⟩
      have ex : xs[i]? = some xs[i] := List.getElem?_eq_getElem hlt
      obtain ⟨S1, T1, rx⟩ := (w.ylds i O' H' x H'' _ mo kp ex y).go S'
      rw [List.drop_eq_getElem_cons hlt, turns] at et'
      cases es : setT tg xs[i] (wipeE ρ' vs) with
      | none => rw [es] at et'; cases et'
      | some ρ4 =>
        rw [es] at et'
        simp only at et'
        obtain ⟨oD1, hD1, nw1⟩ := T1.at oD' hD' nw'
        refine g_ok S1 rx es fun σ2 S2 T2 wp => ⟨by rw [wp vs hv]; exact L2_wipe_wipe, ?_⟩
        obtain ⟨oD2, hD2, nw2⟩ := T2.at oD1 hD1 nw1
        cases ef : f ρ4 with
        | bad => rw [ef] at et'; cases et'
        | exc _ _ => rw [ef] at et'; cases et'
        | ok vs1 ρ5 =>
          rw [ef] at et'
          simp only at et'
          cases er : turns tg vs f (xs.drop (i + 1)) ρ5 with
          | bad => rw [er] at et'; cases et'
          | exc _ _ => rw [er] at et'; cases et'
          | ok vs2 ρ6 =>
            rw [er] at et'
            cases et'
            have ar2 : ac.AR O' H'' u' (ys ++ ws) := ac.mono (S'.mono T1) ar'
            refine tk (P (i + 1)) σ2 H'' O' ρ4 u' (ys ++ ws) vs1 ρ5 S2 oD2 nw2 hD2 ar2 (ac.pre (b := vs2) ?_) ef fun O7 H7 u7 S7 T7 oD7 nw7 hD7 ar7 => ?_
            · rw [← eq'] at lim
              simpa [List.append_assoc] using lim
            · have wp2 : L2.wipe σ2 vs = L2.wipe σ vs := by rw [wp vs hv]; exact L2_wipe_wipe
              obtain ⟨S8, T8⟩ := S7.wipe vs
              rw [wp2] at S8 T8
              refine ⟨O7, ρ5, u7, ws ++ vs1, vs2, S8, ?_, oD7, fun k z => ?_, hD7, by simpa [List.append_assoc] using ar7, er, by rw [← eq', List.append_assoc], ?_⟩
              · have T9 := (Step.unhid (D := D) (T1.trans T2) fun _ _ => trivial).hid2 T7
                have T10 := (T'.hid2 T9)
                exact T10.trans T8
              · obtain ⟨q1, q2⟩ : Own ρ5 σ2 k D ∧ True := by
                  obtain ⟨⟨d, e1⟩, e2⟩ := z
                  rcases wipeE_get e1 with z | ⟨z1, z2⟩
                  · cases z
                  · rw [← wp2, wipe_out z2] at e2
                    exact ⟨⟨⟨d, z1⟩, e2⟩, trivial⟩
                exact nw7 k q1
              · rw [S7.len]
                have : (L2.wipe σ2 vs).length = (L2.wipe σ vs).length := by rw [wp2]
                rw [wipe_length, wipe_length] at this
                exact this
    · have e : i = xs.length := by omega
      subst e
      refine .inl ⟨w.stops O' H' mo kp, ?_⟩
      rw [List.drop_length] at et'
      cases et'
      obtain ⟨Sb, Tb, ob⟩ := Sh.restore (ρ2 := ρ2) Step.refl hl' S' T'
      refine done O' H' u' Sb Tb oD' (fun k z => ?_) hD' (by rw [← eq'] ; simpa using ar')
      rcases ob k D z with q | q
      · exact nw k q
      · exact nw' k q
where
  L2_wipe_wipe {σ : L2.St} {vs : List Nat} : L2.wipe (L2.wipe σ vs) vs = L2.wipe σ vs := by
    apply List.ext_getElem?
    intro k
    by_cases hk : k ∈ vs
    · by_cases hl : k < σ.length
      · rw [at_wiped (by rw [wipe_length]; exact hl) hk, at_wiped hl hk]
      · rw [List.getElem?_eq_none (by rw [wipe_length, wipe_length]; omega), List.getElem?_eq_none (by rw [wipe_length]; omega)]
    · rw [wipe_out hk]
end
end Mi
end
section
namespace Mi
open PySem PySem.Spec L2
def W0 : WX := fun _ _ _ _ => False
def acL (K : PySem.W.Frag) : Ac K D where
  AR := fun O H u ys => ∃ acc, u = .lst acc ∧ RpL K O H acc ys
  Lim := fun ys => ys.length ≤ sizeLine
  mono := fun m ⟨acc, e, r⟩ => ⟨acc, e, r.mono m⟩
  ct := fun ⟨acc, e, r⟩ => by subst e; rfl
  pre := fun {a b} h => by
    simp only [List.length_append] at h
    omega
section
variable {R : Rt} {D : Addr} {c cc : CE}
def addL (D : Addr) (Nx : Hp → Prop) (y : V) (H : Hp) : Prop := ∃ acc, H D = some (.lst acc) ∧ acc.length < sizeLine ∧ Nx (upd H D (.lst (acc ++ [y])))
theorem add_ok {O O1 : Addr → Prop} {H H1 : Hp} {ρ ρ1 : Env} {σ : L2.St} {u : HO} {ys : List Mi.D} {r : Rs} {v : V} {Nx : Hp → Prop} (oD : O D) (nw : ∀ i, ¬ Own ρ σ i D) (hD : H D = some u) (ar : (acL R.K).AR O H u ys) (lim : (acL R.K).Lim (ys ++ [r.2]))
    (S : SR R.K O H ρ σ) (S1 : SR R.K O1 H1 ρ1 σ) (T1 : Step O H ρ σ O1 H1 ρ1 σ) (rr : RR R.K H O1 H1 ρ1 σ r v)
    (k : ∀ O' H' u', SR R.K O' H' ρ1 σ → Step (hidO O D) (hidH H D) ρ σ O' H' ρ1 σ → O' D → (∀ i, ¬ Own ρ1 σ i D) → H' D = some u' → (acL R.K).AR O' H' u' (ys ++ [r.2]) → Nx H') : addL D Nx v H1 := by
  obtain ⟨O', S', T', rp, _⟩ := give S1 T1 rr
  obtain ⟨oD', hD', nw'⟩ := T'.at oD hD nw
  obtain ⟨acc, rfl, ra⟩ := ar
  have ra := ra.mono (S.mono T')
  obtain ⟨S2, T2, m2⟩ := S'.poke oD' hD' rfl nw' (u' := .lst (acc ++ [v])) rfl
  refine ⟨acc, hD', ?_, k O' _ _ S2 ((Step.unhid T' fun _ _ => trivial).hid2 T2) oD' nw' upd_same ⟨_, rfl, (ra.append (.cons rp .nil)).mono m2⟩⟩
  have lim : (ys ++ [r.2]).length ≤ sizeLine := lim
  rw [ra.length]
  simp only [List.length_append, List.length_singleton] at lim
  omega
theorem turn_lc : TurnOk R (acL R.K) D (fun ρ => (evE R.cf c ρ).bind fun r ρ' => .ok [r.2] ρ') (fun Nx σ H => tYes σ H fun b H3 => if b = true then tE R W0 c σ H3 (addL D Nx) else Nx H3) := by
  intro Nx σ H O ρ u ys zs ρ2 S oD nw hD ar lim ef k
  dsimp only at ef
  show tE R W0 c σ H (addL D Nx)
  refine ⟨O, ρ, S, ?_⟩
  cases e : evE R.cf c ρ with
  | bad => rw [e] at ef; cases ef
  | exc _ _ => rw [e] at ef; cases ef
  | ok r ρ' =>
    rw [e] at ef
    cases ef
    exact fun O1 H1 S1 T1 v rr => add_ok oD nw hD ar lim S S1 T1 rr k
theorem turn_lcf : TurnOk R (acL R.K) D (fun ρ => (evE R.cf cc ρ).bind fun t ρ' => (lift (tru t.2) ρ').bind fun t ρ' => if t = true then (evE R.cf c ρ').bind fun r ρ' => .ok [r.2] ρ' else .ok [] ρ')
    (fun Nx σ H => tT R W0 cc σ H fun b H3 => if b = true then tE R W0 c σ H3 (addL D Nx) else Nx H3) := by
  intro Nx σ H O ρ u ys zs ρ2 S oD nw hD ar lim ef k
  dsimp only at ef
  refine ⟨O, ρ, S, ?_⟩
  cases e : evE R.cf cc ρ with
  | bad => rw [e] at ef; cases ef
  | exc _ _ => rw [e] at ef; cases ef
  | ok t ρ' =>
    rw [e] at ef
    have ef : ((lift (tru t.2) ρ').bind fun t ρ' => if t = true then (evE R.cf c ρ').bind fun r ρ' => .ok [r.2] ρ' else .ok [] ρ') = .ok zs ρ2 := ef
    cases et : tru t.2 with
    | none => rw [et] at ef; cases ef
    | some b =>
      rw [et] at ef
      intro O1 H1 S1 T1
      refine ⟨b, et, ?_⟩
      obtain ⟨oD1, hD1, nw1⟩ := T1.at oD hD nw
      have ar1 := (acL R.K).mono (S.mono T1) ar
      have T1h := Step.unhid (D := D) T1 fun _ _ => trivial
      cases b with
      | false =>
        have ef : Out.ok [] ρ' = Out.ok zs ρ2 := ef
        cases ef
        rw [if_neg (by decide)]
        exact k O1 H1 u S1 T1h oD1 nw1 hD1 (by simpa using ar1)
      | true =>
        have ef : (evE R.cf c ρ').bind (fun r ρ' => .ok [r.2] ρ') = Out.ok zs ρ2 := ef
        rw [if_pos rfl]
        refine ⟨O1, ρ', S1, ?_⟩
        cases e2 : evE R.cf c ρ' with
        | bad => rw [e2] at ef; cases ef
        | exc _ _ => rw [e2] at ef; cases ef
        | ok r ρ3 =>
          rw [e2] at ef
          cases ef
          exact fun O2 H2 S2 T2 v rr => add_ok oD1 nw1 hD1 ar1 lim S1 S2 T2 rr fun O' H' u' S' T' => k O' H' u' S' (T1h.hid2 T')
end
section
variable {X : Cx} {R : Rt} {W : WX} {α : Type}
theorem blk_new {ac : Ac R.K α} {f : Env → Out (List α)} {vs : List Nat} {T : Tg} {u0 : HO} {rd : Addr → (Hp → Prop) → L2.St → Hp → Prop} {σ : L2.St} {H1 : Hp} {O1 : Addr → Prop} {ρ1 : Env} {xl : List D × Option Nat} {zs : List α} {ρ3 : Env} {J : It} {Q : Addr → Hp → Prop}
    (tk : ∀ D, TurnOk R ac D f (rd D)) (hv : ∀ i ∈ tgL T, i ∈ vs) (S : SR R.K O1 H1 ρ1 σ) (w : Wlk R.K J O1 H1 (kpOf ρ1 σ xl.2) xl.1) (ev : blkV vs T f xl ρ1 = .ok zs ρ3) (lim : ac.Lim zs) (a0 : ∀ O H, ac.AR O H u0 [])
    (k : ∀ D O' H' u', H1 D = none → SR R.K O' H' ρ3 σ → Step O1 H1 ρ1 σ O' H' ρ3 σ → O' D → (∀ i, ¬ Own ρ3 σ i D) → H' D = some u' → ac.AR O' H' u' zs → Q D H') :
    ∀ D, H1 D = none → LoopR J (Q D) (fun Nx x H' => gOf R.K T x (L2.wipe σ vs) H' fun σ2 H2 => L2.wipe σ2 vs = L2.wipe σ vs ∧ rd D Nx σ2 H2) (upd H1 D u0) := by
  intro D hD
  have hc : cont u0 = true := ac.ct (a0 O1 H1)
  obtain ⟨S1, T1, m1, nw⟩ := S.layO (u := u0) hD hc
  have w1 : Wlk R.K J (addO O1 D) (upd H1 D u0) (kpOf ρ1 σ xl.2) xl.1 := w.later m1 (fun a o _ h => by rw [upd_ne (ne_of_none h hD)]; exact h) fun a h => h
  obtain ⟨xs, l⟩ := xl
  refine loop_ok (ys := []) (tk D) S1 (.inr rfl) nw upd_same (a0 _ _) (by simpa using lim) w1 hv ev fun O' H' u' S' T' oD' nw' hD' ar' => ?_
  have T2 : Step O1 H1 ρ1 σ O' H' ρ3 σ := T1.hid hD T'
  exact k D O' H' u' hD S' T2 oD' nw' hD' (by simpa using ar')
theorem le_lcg {f : Env → Out (List D)} {cit : CE} {vs : List Nat} {T : Tg} {tt : TT} {te : TE} {σ : L2.St} {H : Hp} {Q : VK} (tk : ∀ D, TurnOk R (acL R.K) D f (fun Nx σ H => tt σ H fun b H3 => if b = true then te σ H3 (addL D Nx) else Nx H3)) (hv : ∀ i ∈ tgL T, i ∈ vs)
    (h : ∃ O ρ, SR R.K O H ρ σ ∧ Ans R W σ O H ρ ((evI R.cf cit ρ).bind fun xl ρ1 => if xl.1.length ≤ sizeLine then (blkV vs T f xl ρ1).bind fun ys ρ2 => .ok (true, .list ys) ρ2 else .bad) (fun r ρ' O' H' => ∀ v, RR R.K H O' H' ρ' σ r v → Q v H'))
    (hlen : ∀ xs ρ zs ρ2, xs.length ≤ sizeLine → turns T vs f xs ρ = .ok zs ρ2 → zs.length ≤ sizeLine) : tLc (tI R W cit) (gOf R.K T) tt te vs σ H Q := by
  obtain ⟨O, ρ, S, A⟩ := h
  refine ⟨O, ρ, S, A.bind fun xl ρ1 O1 H1 S1 T1 A1 J w => ?_⟩
  split at A1
  · rename_i hl
    cases eb : blkV vs T f xl ρ1 with
    | bad => rw [eb] at A1; exact A1.elim
    | exc _ _ =>
      unfold blkV at eb
      split at eb <;> cases eb
    | ok zs ρ3 =>
      rw [eb] at A1
      have A1 : Ans R W σ O H ρ (.ok ((true, PyData.list zs) : Rs) ρ3) _ := A1
      have lim : zs.length ≤ sizeLine := by
        unfold blkV at eb
        split at eb
        · rename_i e
          cases eb
          exact hlen _ _ _ _ hl e
        · cases eb
      exact blk_new tk hv S1 w eb lim (fun O H => ⟨[], rfl, .nil⟩) fun D O' H' u' hD S' T' oD' nw' hD' ⟨acc, e, ra⟩ => by
        subst e
        exact A1 O' H' S' (T1.trans T') _ (RR.new oD' (T1.none hD) nw' hD' (.lst ra))
  · exact A1.elim
theorem turns_len {f : Env → Out (List D)} {T : Tg} {vs : List Nat} (hf : ∀ ρ ys ρ', f ρ = .ok ys ρ' → ys.length ≤ 1) : ∀ (xs : List D) (ρ : Env) (zs : List D) (ρ2 : Env), turns T vs f xs ρ = .ok zs ρ2 → zs.length ≤ xs.length
  | [], ρ, zs, ρ2, h => by cases h; exact Nat.le_refl _
  | x :: r, ρ, zs, ρ2, h => by
    unfold turns at h
    split at h
    · cases h
    · split at h
      · rename_i e
        split at h
        · rename_i e2
          cases h
          have h1 := hf _ _ _ e
          have h2 := turns_len hf r _ _ _ e2
          simp only [List.length_append, List.length_cons]
          omega
        · cases h
      · cases h
theorem f_lc {c : CE} : ∀ (ρ : Env) (ys : List D) (ρ' : Env), ((evE R.cf c ρ).bind fun r ρ' => Out.ok [r.2] ρ') = .ok ys ρ' → ys.length ≤ 1 := fun ρ ys ρ' h => by
  cases e : evE R.cf c ρ with
  | bad => rw [e] at h; cases h
  | exc _ _ => rw [e] at h; cases h
  | ok r ρ2 => rw [e] at h; cases h; exact Nat.le_refl _
theorem f_lcf {c cc : CE} : ∀ (ρ : Env) (ys : List D) (ρ' : Env), ((evE R.cf cc ρ).bind fun t ρ' => (lift (tru t.2) ρ').bind fun t ρ' => if t = true then (evE R.cf c ρ').bind fun r ρ' => Out.ok [r.2] ρ' else .ok [] ρ') = .ok ys ρ' → ys.length ≤ 1 := fun ρ ys ρ' h => by
  cases e : evE R.cf cc ρ with
  | bad => rw [e] at h; cases h
  | exc _ _ => rw [e] at h; cases h
  | ok t ρ2 =>
    rw [e] at h
    have h : ((lift (tru t.2) ρ2).bind fun t ρ' => if t = true then (evE R.cf c ρ').bind fun r ρ' => Out.ok [r.2] ρ' else .ok [] ρ') = .ok ys ρ' := h
    cases e2 : tru t.2 with
    | none => rw [e2] at h; cases h
    | some b =>
      rw [e2] at h
      cases b with
      | false =>
        have h : Out.ok [] ρ2 = Out.ok ys ρ' := h
        cases h; exact Nat.zero_le _
      | true => exact f_lc _ _ _ h
theorem le_lc {c cit : CE} {vs : List Nat} {T : Tg} {σ : L2.St} {H : Hp} {Q : VK} (hv : ∀ i ∈ tgL T, i ∈ vs) (h : tE R W (.lc vs c T cit) σ H Q) : tLc (tI R W cit) (gOf R.K T) tYes (tE R W0 c) vs σ H Q := by
  obtain ⟨O, ρ, S, A⟩ := h
  rw [evE] at A
  exact le_lcg (fun D => turn_lc) hv ⟨O, ρ, S, A⟩ fun xs ρ zs ρ2 hl e => Nat.le_trans (turns_len f_lc _ _ _ _ e) hl
theorem le_lcf {c cc cit : CE} {vs : List Nat} {T : Tg} {σ : L2.St} {H : Hp} {Q : VK} (hv : ∀ i ∈ tgL T, i ∈ vs) (h : tE R W (.lcf vs c T cit cc) σ H Q) : tLc (tI R W cit) (gOf R.K T) (tT R W0 cc) (tE R W0 c) vs σ H Q := by
  obtain ⟨O, ρ, S, A⟩ := h
  rw [evE] at A
  exact le_lcg (fun D => turn_lcf) hv ⟨O, ρ, S, A⟩ fun xs ρ zs ρ2 hl e => Nat.le_trans (turns_len f_lcf _ _ _ _ e) hl
def AllBlk (X : Cx) (scope : Scope) (P : Cx → Prop) : Prop := ∀ (s : Shared) (H : Hp) (C : Addr) (cl : List (Str × Addr)) (fp : List Addr), P (X.blk s H scope (compEnvC scope cl C X.env) fp)
variable {elt tg iter cond : Expr} {c cc cit : CE} {scope : Scope} {own : List (Str × Nat)} {pos : Pos} {T : Tg}
theorem me_lc (hc : X.calm = true) (hN : X.N.Nodup) (hi : PI X tg iter (tI R W cit)) (ok : BlkOk X.N X.env.scope scope own) (hv : ∀ i ∈ tgL T, i ∈ own.map (·.2))
    (hg : AllBlk X scope fun Y => PG Y tg (gOf R.K T)) (he : AllBlk X scope fun Y => PE Y elt (tE R W0 c)) (hs : ∀ x, foldedSetIterable iter X.env x = pure x) : PE X (.ListComp elt [⟨tg, iter, [], 0⟩] scope pos) (tE R W (.lc (own.map (·.2)) c T cit)) :=
  pe_wk (pe_lc hc hN hi ok hg (fun _ _ _ _ _ => pts_nil) he hs) fun _ _ _ h => le_lc hv h
theorem me_lcf (hc : X.calm = true) (hN : X.N.Nodup) (hi : PI X tg iter (tI R W cit)) (ok : BlkOk X.N X.env.scope scope own) (hv : ∀ i ∈ tgL T, i ∈ own.map (·.2))
    (hg : AllBlk X scope fun Y => PG Y tg (gOf R.K T)) (ht : AllBlk X scope fun Y => PT Y cond (tT R W0 cc)) (he : AllBlk X scope fun Y => PE Y elt (tE R W0 c)) (hs : ∀ x, foldedSetIterable iter X.env x = pure x) : PE X (.ListComp elt [⟨tg, iter, [cond], 0⟩] scope pos) (tE R W (.lcf (own.map (·.2)) c T cit cc)) :=
  pe_wk (pe_lc hc hN hi ok hg (fun s H C cl fp => pts_one (ht s H C cl fp)) he hs) fun _ _ _ h => le_lcf hv h
theorem ms_lc {i : Nat} {y : Str} {py spos : Pos} {t : TE} (hc : X.calm = true) (hN : X.N.Nodup) (hy : X.N[i]? = some y) (hyl : X.env.scope.names.lookup y = some .local) (hsw : swapsWith (.ListComp elt [⟨tg, iter, [], 0⟩] scope pos) (some (.Name y py)) spos.line X.env = pure true)
    (hi : PI X tg iter (tI R W cit)) (ok : BlkOk X.N X.env.scope scope own) (hv : ∀ i ∈ tgL T, i ∈ own.map (·.2))
    (hg : AllBlk X scope fun Y => PG Y tg (gOf R.K T)) (he : AllBlk X scope fun Y => PE Y elt (tE R W0 c)) (hs : ∀ x, foldedSetIterable iter X.env x = pure x) : PS X (.Assign [.Name y py] (.ListComp elt [⟨tg, iter, [], 0⟩] scope pos) spos) (tAsg (tE R W (.lc (own.map (·.2)) c T cit)) (gName i)) :=
  ps_wk (ps_setLc hc hN hy hyl hsw hi ok hg (fun _ _ _ _ _ => pts_nil) he hs) fun _ _ _ h => le_lc hv h
theorem ms_lcf {i : Nat} {y : Str} {py spos : Pos} {t : TE} (hc : X.calm = true) (hN : X.N.Nodup) (hy : X.N[i]? = some y) (hyl : X.env.scope.names.lookup y = some .local) (hsw : swapsWith (.ListComp elt [⟨tg, iter, [cond], 0⟩] scope pos) (some (.Name y py)) spos.line X.env = pure true)
    (hi : PI X tg iter (tI R W cit)) (ok : BlkOk X.N X.env.scope scope own) (hv : ∀ i ∈ tgL T, i ∈ own.map (·.2))
    (hg : AllBlk X scope fun Y => PG Y tg (gOf R.K T)) (ht : AllBlk X scope fun Y => PT Y cond (tT R W0 cc)) (he : AllBlk X scope fun Y => PE Y elt (tE R W0 c)) (hs : ∀ x, foldedSetIterable iter X.env x = pure x) : PS X (.Assign [.Name y py] (.ListComp elt [⟨tg, iter, [cond], 0⟩] scope pos) spos) (tAsg (tE R W (.lcf (own.map (·.2)) c T cit cc)) (gName i)) :=
  ps_wk (ps_setLc hc hN hy hyl hsw hi ok hg (fun s H C cl fp => pts_one (ht s H C cl fp)) he hs) fun _ _ _ h => le_lcf hv h
end
end Mi
end
section
namespace Mi
open PySem PySem.Spec L2
section
variable {R : Rt} {α : Type} {ac : Ac R.K α} {D : Addr} {g : Env → Out (List α)} {rd : (Hp → Prop) → L2.St → Hp → Prop} {cit2 : CE} {vs2 : List Nat} {T2 : Tg}
theorem turn_2 (tk : TurnOk R ac D g rd) (hv : ∀ i ∈ tgL T2, i ∈ vs2) : TurnOk R ac D (fun ρ => (evI R.cf cit2 ρ).bind fun xl2 ρ' => blkV vs2 T2 g xl2 ρ')
    (fun Nx σ H => tYes σ H fun b H3 => if b = true then tI R W0 cit2 σ H3 (fun J1 H4 => LoopR J1 Nx (fun Nx1 x H' => gOf R.K T2 x (L2.wipe σ vs2) H' fun σ3 H5 => L2.wipe σ3 vs2 = L2.wipe σ vs2 ∧ rd Nx1 σ3 H5) H4) else Nx H3) := by
  intro Nx σ H O ρ u ys zs ρ2 S oD nw hD ar lim ef k
  dsimp only at ef
  show tI R W0 cit2 σ H _
  refine ⟨O, ρ, S, ?_⟩
  cases e : evI R.cf cit2 ρ with
  | bad => rw [e] at ef; cases ef
  | exc _ _ => rw [e] at ef; cases ef
  | ok xl ρ' =>
    rw [e] at ef
    obtain ⟨xs, l⟩ := xl
    have ef : blkV vs2 T2 g (xs, l) ρ' = .ok zs ρ2 := ef
    intro O1 H1 S1 T1 J w
    obtain ⟨oD1, hD1, nw1⟩ := T1.at oD hD nw
    refine loop_ok tk S1 oD1 nw1 hD1 (ac.mono (S.mono T1) ar) lim w hv ef fun O' H' u' S' T' => k O' H' u' S' ((Step.unhid T1 fun _ _ => trivial).hid2 T')
end
section
variable {X : Cx} {R : Rt} {W : WX}
theorem blkV_exc {α : Type} {vs : List Nat} {T : Tg} {f : Env → Out (List α)} {xl : List D × Option Nat} {ρ ρ' : Env} {x : Exn} (e : blkV vs T f xl ρ = .exc x ρ') : False := by
  unfold blkV at e
  split at e <;> cases e
theorem le_lc2 {c cit cit2 : CE} {vs vs2 : List Nat} {T T2 : Tg} {σ : L2.St} {H : Hp} {Q : VK} (hv : ∀ i ∈ tgL T, i ∈ vs) (hv2 : ∀ i ∈ tgL T2, i ∈ vs2) (h : tE R W (.lc2 vs vs2 c T cit T2 cit2) σ H Q) :
    tLc2 (tI R W cit) (gOf R.K T) tYes (tI R W0 cit2) (gOf R.K T2) tYes (tE R W0 c) vs vs2 σ H Q := by
  obtain ⟨O, ρ, S, A⟩ := h
  rw [evE] at A
  refine ⟨O, ρ, S, A.bind fun xl ρ1 O1 H1 S1 T1 A1 J w => ?_⟩
  cases eb : blkV vs T (fun ρ => (evI R.cf cit2 ρ).bind fun xl2 ρ' => blkV vs2 T2 (fun ρ => (evE R.cf c ρ).bind fun r ρ' => .ok [r.2] ρ') xl2 ρ') xl ρ1 with
  | bad => rw [eb] at A1; exact A1.elim
  | exc _ _ => exact (blkV_exc eb).elim
  | ok zs ρ3 =>
    rw [eb] at A1
    have A1 : Ans R W σ O H ρ (if zs.length ≤ sizeLine then .ok ((true, PyData.list zs) : Rs) ρ3 else .bad) _ := A1
    split at A1
    · rename_i lim
      exact blk_new (ac := acL R.K) (u0 := .lst []) (fun D => turn_2 (ac := acL R.K) (D := D) turn_lc hv2) hv S1 w eb lim (fun O H => ⟨[], rfl, .nil⟩) fun D O' H' u' hD S' T' oD' nw' hD' ⟨acc, e, ra⟩ => by
        subst e
        exact A1 O' H' S' (T1.trans T') _ (RR.new oD' (T1.none hD) nw' hD' (.lst ra))
    · exact A1.elim
variable {elt tg iter tg2 iter2 : Expr} {c cit cit2 : CE} {scope : Scope} {own : List (Str × Nat)} {vs2 : List Nat} {pos : Pos} {T T2 : Tg}
theorem me_lc2 (hc : X.calm = true) (hN : X.N.Nodup) (hi : PI X tg iter (tI R W cit)) (ok : BlkOk X.N X.env.scope scope own) (hv : ∀ i ∈ tgL T, i ∈ own.map (·.2)) (hv2 : ∀ i ∈ tgL T2, i ∈ vs2) (hw : ∀ i ∈ vs2, i ∈ own.map (·.2))
    (hg : AllBlk X scope fun Y => PG Y tg (gOf R.K T)) (hi2 : AllBlk X scope fun Y => PI Y tg2 iter2 (tI R W0 cit2)) (hg2 : AllBlk X scope fun Y => PG Y tg2 (gOf R.K T2)) (he : AllBlk X scope fun Y => PE Y elt (tE R W0 c))
    (hs : ∀ x, foldedSetIterable iter X.env x = pure x) (hs2 : ∀ env x, foldedSetIterable iter2 env x = pure x) : PE X (.ListComp elt [⟨tg, iter, [], 0⟩, ⟨tg2, iter2, [], 0⟩] scope pos) (tE R W (.lc2 (own.map (·.2)) vs2 c T cit T2 cit2)) :=
  pe_wk (pe_lc2 hc hN hi ok hw hg (fun _ _ _ _ _ => pts_nil) hi2 hg2 (fun _ _ _ _ _ => pts_nil) he hs hs2) fun _ _ _ h => le_lc2 hv hv2 h
theorem ms_lc2 {i : Nat} {y : Str} {py spos : Pos} (hc : X.calm = true) (hN : X.N.Nodup) (hy : X.N[i]? = some y) (hyl : X.env.scope.names.lookup y = some .local) (hsw : swapsWith (.ListComp elt [⟨tg, iter, [], 0⟩, ⟨tg2, iter2, [], 0⟩] scope pos) (some (.Name y py)) spos.line X.env = pure true)
    (hi : PI X tg iter (tI R W cit)) (ok : BlkOk X.N X.env.scope scope own) (hv : ∀ i ∈ tgL T, i ∈ own.map (·.2)) (hv2 : ∀ i ∈ tgL T2, i ∈ vs2) (hw : ∀ i ∈ vs2, i ∈ own.map (·.2))
    (hg : AllBlk X scope fun Y => PG Y tg (gOf R.K T)) (hi2 : AllBlk X scope fun Y => PI Y tg2 iter2 (tI R W0 cit2)) (hg2 : AllBlk X scope fun Y => PG Y tg2 (gOf R.K T2)) (he : AllBlk X scope fun Y => PE Y elt (tE R W0 c))
    (hs : ∀ x, foldedSetIterable iter X.env x = pure x) (hs2 : ∀ env x, foldedSetIterable iter2 env x = pure x) : PS X (.Assign [.Name y py] (.ListComp elt [⟨tg, iter, [], 0⟩, ⟨tg2, iter2, [], 0⟩] scope pos) spos) (tAsg (tE R W (.lc2 (own.map (·.2)) vs2 c T cit T2 cit2)) (gName i)) :=
  ps_wk (ps_setLc2 hc hN hy hyl hsw hi ok hw hg (fun _ _ _ _ _ => pts_nil) hi2 hg2 (fun _ _ _ _ _ => pts_nil) he hs hs2) fun _ _ _ h => le_lc2 hv hv2 h
end
end Mi
end
section
namespace Mi
open PySem PySem.Spec L2
inductive Fw where
  | nx (ρ : Env)
  | rt (r : Rs) (ρ : Env)
  | mv (i : Nat) (d : D) (ρ : Env)
  | bk (ρ : Env)
  | exc (x : Exn) (ρ : Env)
  | bad
def toF {α : Type} : Out α → (α → Env → Fw) → Fw
  | .ok a ρ, f => f a ρ
  | .exc x ρ, _ => .exc x ρ
  | .bad, _ => .bad
def forW (tg : Tg) (body : Env → Fw) : List D → Env → Fw
  | [], ρ => .nx ρ
  | x :: r, ρ => match setT tg x ρ with
    | none => .bad
    | some ρ1 => match body ρ1 with
      | .nx ρ2 => forW tg body r ρ2
      | .bk ρ2 => .nx ρ2
      | f => f
def whlW (c : Env → Out Bool) (body : Env → Fw) : Nat → Env → Fw
  | 0, _ => .bad
  | n + 1, ρ => match c ρ with
    | .ok false ρ1 => .nx ρ1
    | .ok true ρ1 => match body ρ1 with
      | .nx ρ2 => whlW c body n ρ2
      | .bk ρ2 => .nx ρ2
      | f => f
    | .exc x ρ1 => .exc x ρ1
    | .bad => .bad
def stOk (cf : Cf) (is : List Nat) : Bool := is.all fun i => !cf.fx.contains i
def unlE (ρ : Env) : Option Nat → Option Env
  | none => some ρ
  | some i => match ρ[i]? with
    | some (.own (.list xs)) => some (ρ.set i (.shr (.list xs)))
    | _ => none
def setOp : D → D → D → Option D
  | .list xs, .int i, v => (ixN xs.length i).map fun j => .list (xs.set j v)
  | .dict kvs, k, v => if fitsK kvs k = true ∧ kvs.length < sizeLine then some (.dict (putD kvs k v)) else none
  | _, _, _ => none
def augOp : Operator → D → D → Option D
  | .Add, .int i, .int j => some (.int (i + j))
  | .Sub, .int i, .int j => some (.int (i - j))
  | .Add, .str x, .str y => if x.length + y.length ≤ sizeLine then some (.str (x ++ y)) else none
  | _, _, _ => none
def isAdd : Operator → Bool
  | .Add => true
  | _ => false
mutual
def evS (cf : Cf) : CS → Env → Fw
  | .exp c, ρ => toF (evE cf c ρ) fun _ ρ' => .nx ρ'
  | .asg i c, ρ => if stOk cf [i] = true then toF (evE cf c ρ) fun r ρ' => .nx (ρ'.set i (if cf.mu.contains i = true then mk r.1 r.2 else .shr r.2)) else .bad
  | .asgT is c, ρ => if stOk cf is = true then toF (evE cf c ρ) fun r ρ' => match setT (.tp is) r.2 ρ' with
      | some ρ2 => .nx ρ2
      | none => .bad
      else .bad
  | .sub i k v, ρ => toF (evE cf v ρ) fun r ρ1 => match ρ1[i]? with
      | some (.own _) => toF (evE cf k ρ1) fun x ρ2 => match ρ2[i]? with
        | some (.own d) => match setOp d x.2 r.2 with
          | some d' => .nx (ρ2.set i (.own d'))
          | none => .bad
        | _ => .bad
      | _ => .bad
  | .aug op i c, ρ => if stOk cf [i] = true then match ρ[i]? with
      | some (.shr d) => toF (evE cf c ρ) fun r ρ' => match augOp op d r.2 with
        | some d' => .nx (ρ'.set i (.shr d'))
        | none => .bad
      | some (.own _) => if isAdd op = true then toF (evE cf c ρ) fun r ρ' => match ρ'[i]?, r.2 with
        | some (.own (.list xs)), .list ys => if xs.length + ys.length ≤ sizeLine then .nx (ρ'.set i (.own (.list (xs ++ ys)))) else .bad
        | _, _ => .bad
        else .bad
      | _ => .bad
      else .bad
  | .app i c, ρ => match ρ[i]? with
      | some (.own (.list _)) => toF (evE cf c ρ) fun r ρ' => match ρ'[i]? with
        | some (.own (.list xs)) => if xs.length < sizeLine then .nx (ρ'.set i (.own (.list (xs ++ [r.2])))) else .bad
        | _ => .bad
      | _ => .bad
  | .ret c, ρ => match c with
      | .var i => match ρ[i]? with
        | some (.own d) => if stOk cf [i] = true then .mv i d ρ else .rt (false, d) (ρ.set i (.shr d))
        | some (.shr d) => .rt (false, d) ρ
        | _ => .bad
      | _ => toF (evE cf c ρ) fun r ρ' => .rt r ρ'
  | .retN, ρ => .rt (false, .none) ρ
  | .ite c t e, ρ => toF (evE cf c ρ) fun r ρ' => match tru r.2 with
      | some true => evSs cf t ρ'
      | some false => evSs cf e ρ'
      | none => .bad
  | .for tg it b, ρ => if stOk cf (tgL tg) = true then toF (evI cf it ρ) fun xl ρ' => match unlE ρ' xl.2 with
      | some ρ2 => forW tg (evSs cf b) xl.1 ρ2
      | none => .bad
      else .bad
  | .whl c b, ρ => whlW (fun ρ => (evE cf c ρ).bind fun r ρ' => lift (tru r.2) ρ') (evSs cf b) cf.fuel ρ
  | .brk, ρ => .bk ρ
  | .pas, ρ => .nx ρ
  | _, _ => .bad
def evSs (cf : Cf) : List CS → Env → Fw
  | [], ρ => .nx ρ
  | c :: cs, ρ => match evS cf c ρ with
    | .nx ρ' => evSs cf cs ρ'
    | f => f
end
def Fx (fx : List Nat) (σ σ' : L2.St) : Prop := ∀ i ∈ fx, σ'[i]? = σ[i]?
theorem Fx.refl {fx : List Nat} {σ : L2.St} : Fx fx σ σ := fun _ _ => rfl
theorem Fx.trans {fx : List Nat} {σ σ' σ2 : L2.St} (a : Fx fx σ σ') (b : Fx fx σ' σ2) : Fx fx σ σ2 := fun i h => (b i h).trans (a i h)
def AnsS (R : Rt) (W : WX) (D : Ends) (σ : L2.St) (O : Addr → Prop) (H : Hp) (ρ : Env) (f : Fw) : Prop :=
  match f with
  | .nx ρ' => ∀ O' H' σ', SR R.K O' H' ρ' σ' → Step O H ρ σ O' H' ρ' σ' → Fx R.cf.fx σ σ' → D.nx σ' H'
  | .bk ρ' => ∀ O' H' σ', SR R.K O' H' ρ' σ' → Step O H ρ σ O' H' ρ' σ' → Fx R.cf.fx σ σ' → D.bk σ' H'
  | .rt r ρ' => ∀ O' H' σ' v, SR R.K O' H' ρ' σ' → Step O H ρ σ O' H' ρ' σ' → Fx R.cf.fx σ σ' → RR R.K H O' H' ρ' σ' r v → D.rt v H'
  | .mv i d ρ' => ∀ O' H' σ' v, SR R.K O' H' ρ' σ' → Step O H ρ σ O' H' ρ' σ' → Fx R.cf.fx σ σ' → ρ'[i]? = some (.own d) → σ'[i]? = some (some v) → stOk R.cf [i] = true → D.rt v H'
  | .exc x ρ' => ∀ O' H' σ', SR R.K O' H' ρ' σ' → Step O H ρ σ O' H' ρ' σ' → Fx R.cf.fx σ σ' → ∀ cls d, R.ex x O' H' cls d → W cls d σ' H'
  | .bad => False
section
variable {R : Rt} {W : WX} {D D' : Ends} {σ σ1 : L2.St} {O O1 : Addr → Prop} {H H1 : Hp} {ρ ρ1 : Env} {f : Fw}
theorem AnsS.rebase (A : AnsS R W D σ O H ρ f) (T : Step O H ρ σ O1 H1 ρ1 σ1) (x : Fx R.cf.fx σ σ1) : AnsS R W D σ1 O1 H1 ρ1 f := by
  cases f with
  | nx ρ' => exact fun O' H' σ' s t y => A O' H' σ' s (T.trans t) (x.trans y)
  | bk ρ' => exact fun O' H' σ' s t y => A O' H' σ' s (T.trans t) (x.trans y)
  | rt r ρ' => exact fun O' H' σ' v s t y rr => A O' H' σ' v s (T.trans t) (x.trans y) (rr.up fun _ z => T.none z)
  | mv i d ρ' => exact fun O' H' σ' v s t y => A O' H' σ' v s (T.trans t) (x.trans y)
  | exc e ρ' => exact fun O' H' σ' s t y => A O' H' σ' s (T.trans t) (x.trans y)
  | bad => exact A
theorem AnsS.toF {α : Type} {o : Out α} {g : α → Env → Fw} {C : α → Env → (Addr → Prop) → Hp → Prop} (A : AnsS R W D σ O H ρ (Mi.toF o g)) (k : ∀ r ρ1 O1 H1, SR R.K O1 H1 ρ1 σ → Step O H ρ σ O1 H1 ρ1 σ → AnsS R W D σ O H ρ (g r ρ1) → C r ρ1 O1 H1) : Ans R W σ O H ρ o C := by
  cases o with
  | ok r ρ' => exact fun O' H' s t => k r ρ' O' H' s t A
  | exc x ρ' => exact fun O' H' s t => A O' H' σ s t Fx.refl
  | bad => exact A
end
def tS (R : Rt) (W : WX) (c : CS) : TS := fun D σ H => ∃ O ρ, SR R.K O H ρ σ ∧ AnsS R W D σ O H ρ (evS R.cf c ρ)
def tSs (R : Rt) (W : WX) (cs : List CS) : TS := fun D σ H => ∃ O ρ, SR R.K O H ρ σ ∧ AnsS R W D σ O H ρ (evSs R.cf cs ρ)
theorem pss_wk {X : Cx} {st : List Stmt} {t t' : TS} (h : PSs X st t) (k : ∀ D σ H, t' D σ H → t D σ H) : PSs X st t' := ⟨fun pins s σ H D I q => h.run pins s σ H D I (k D σ H q)⟩
section
variable {X : Cx} {R : Rt} {W : WX} {st : Stmt} {sts : List Stmt} {c : CS} {cs cs2 : List CS} {e a b : Expr} {ce ck : CE} {pos : Pos} {i : Nat} {x : Str}
theorem mss_nil : PSs X [] (tSs R W []) := pss_wk pss_nil fun D σ H ⟨O, ρ, S, A⟩ => by
  rw [evSs] at A
  exact A O H σ S Step.refl Fx.refl
theorem mss_cons (h : PS X st (tS R W c)) (hr : PSs X sts (tSs R W cs)) : PSs X (st :: sts) (tSs R W (c :: cs)) := pss_wk (pss_cons h hr) fun D σ H ⟨O, ρ, S, A⟩ => by
  refine ⟨O, ρ, S, ?_⟩
  rw [evSs] at A
  cases e : evS R.cf c ρ with
  | nx ρ' =>
    rw [e] at A
    exact fun O' H' σ' s t y => ⟨O', ρ', s, AnsS.rebase A t y⟩
  | bk ρ' => rw [e] at A; exact A
  | rt r ρ' => rw [e] at A; exact A
  | mv i d ρ' => rw [e] at A; exact A
  | exc y ρ' => rw [e] at A; exact A
  | bad => rw [e] at A; exact A
theorem ms_pass : PS X (.Pass pos) (tS R W .pas) := ps_wk ps_pass fun D σ H ⟨O, ρ, S, A⟩ => by
  rw [evS] at A
  exact A O H σ S Step.refl Fx.refl
theorem ms_doc {z : Str} {j : Nat} {p : Pos} : PS X (.Expr (.Constant (.str z) j p) pos) (tS R W .pas) := ps_wk ps_doc fun D σ H ⟨O, ρ, S, A⟩ => by
  rw [evS] at A
  exact A O H σ S Step.refl Fx.refl
theorem ms_break : PS X (.Break pos) (tS R W .brk) := ps_wk ps_break fun D σ H ⟨O, ρ, S, A⟩ => by
  rw [evS] at A
  exact A O H σ S Step.refl Fx.refl
theorem ms_expr (he : PE X e (tE R W ce)) (hs : swapsWith e none pos.line X.env = pure false) : PS X (.Expr e pos) (tS R W (.exp ce)) := ps_wk (ps_expr he hs) fun D σ H ⟨O, ρ, S, A⟩ => by
  rw [evS] at A
  exact ⟨O, ρ, S, A.toF fun r ρ1 O1 H1 S1 T1 A1 v _ => A1 O1 H1 σ S1 T1 Fx.refl⟩
theorem ms_retN : PS X (.Return none pos) (tS R W .retN) := ps_wk ps_retN fun D σ H ⟨O, ρ, S, A⟩ => by
  rw [evS] at A
  exact A O H σ .non S Step.refl Fx.refl (RR.val .non)
theorem evS_ret {cf : Cf} {c : CE} {ρ : Env} (h : isVar c = false) : evS cf (.ret c) ρ = toF (evE cf c ρ) fun r ρ' => .rt r ρ' := by
  rw [evS]
  intro i e
  subst e
  cases h
theorem ms_ret (hv : isVar ce = false) (he : PE X e (tE R W ce)) : PS X (.Return (some e) pos) (tS R W (.ret ce)) := ps_wk (ps_ret he) fun D σ H ⟨O, ρ, S, A⟩ => by
  rw [evS_ret hv] at A
  exact ⟨O, ρ, S, A.toF fun r ρ1 O1 H1 S1 T1 A1 v rr => A1 O1 H1 σ v S1 T1 Fx.refl rr⟩
theorem ms_retV (h : PE X e (tVar i)) : PS X (.Return (some e) pos) (tS R W (.ret (.var i))) := ps_wk (ps_ret h) fun D σ H ⟨O, ρ, S, A⟩ => by
  rw [evS] at A
  split at A
  · rename_i d q
    obtain ⟨a, u, ea, _⟩ := S.sl i _ q
    refine ⟨.ref a, ea, ?_⟩
    split at A
    · rename_i ok
      exact A O H σ _ S Step.refl Fx.refl q ea ok
    · obtain ⟨a', ea', S', T', r⟩ := S.shr q
      rw [ea] at ea'; cases ea'
      exact A _ H σ _ S' T' Fx.refl (RR.val r)
  · rename_i d q
    obtain ⟨v, ea, r⟩ := S.sl i _ q
    exact ⟨v, ea, A O H σ v S Step.refl Fx.refl (RR.val r)⟩
  · exact A.elim
theorem ms_if (hc : PT X e (tT R W ce)) (ha : PSs X sts (tSs R W cs)) {sts2 : List Stmt} (hb : PSs X sts2 (tSs R W cs2)) : PS X (.If e sts sts2 pos) (tS R W (.ite ce cs cs2)) := ps_wk (ps_if hc ha hb) fun D σ H ⟨O, ρ, S, A⟩ => by
  rw [evS] at A
  refine ⟨O, ρ, S, A.toF fun r ρ1 O1 H1 S1 T1 A1 => ?_⟩
  split at A1
  · rename_i q
    exact ⟨true, q, O1, ρ1, S1, A1.rebase T1 Fx.refl⟩
  · rename_i q
    exact ⟨false, q, O1, ρ1, S1, A1.rebase T1 Fx.refl⟩
  · exact A1.elim
theorem stOk_of {cf : Cf} {is : List Nat} (h : stOk cf is = true) : ∀ i ∈ is, i ∉ cf.fx := fun i hi m => by
  unfold stOk at h
  rw [List.all_eq_true] at h
  have := h i hi
  simp [m] at this
theorem Fx.set {fx : List Nat} {σ : L2.St} {i : Nat} {v : Option V} (h : i ∉ fx) : Fx fx σ (σ.set i v) := fun j hj => List.getElem?_set_ne fun e => h (by rw [e]; exact hj)
theorem SR.putR {K : PySem.W.Frag} {O O1 : Addr → Prop} {H H1 : Hp} {ρ ρ1 : Env} {σ : L2.St} {r : Rs} {v : V} {i : Nat} {mu : Bool} (S1 : SR K O1 H1 ρ1 σ) (T1 : Step O H ρ σ O1 H1 ρ1 σ) (rr : RR K H O1 H1 ρ1 σ r v) :
    ∃ O2, SR K O2 H1 (ρ1.set i (if mu = true then Mi.mk r.1 r.2 else .shr r.2)) (σ.set i (some v)) ∧ Step O H ρ σ O2 H1 (ρ1.set i (if mu = true then Mi.mk r.1 r.2 else .shr r.2)) (σ.set i (some v)) := by
  have shr : ∃ O2, SR K O2 H1 (ρ1.set i (.shr r.2)) (σ.set i (some v)) ∧ Step O H ρ σ O2 H1 (ρ1.set i (.shr r.2)) (σ.set i (some v)) := by
    obtain ⟨O', S', T', rp, _⟩ := give (R := ⟨K, ⟨fun _ _ => .bad, fun _ => [], [], [], 0⟩, fun _ _ _ _ _ => True⟩) S1 T1 rr
    obtain ⟨S2, T2⟩ := S'.putS (i := i) rp
    exact ⟨O', S2, T'.trans T2⟩
  cases mu with
  | false => simpa using shr
  | true =>
    rw [if_pos rfl]
    unfold Mi.mk
    split
    · rename_i q
      unfold RR at rr
      rw [if_pos q] at rr
      obtain ⟨a, u, rfl, o, n, nw, hu, c⟩ := rr
      by_cases hi : i < σ.length
      · refine ⟨O1, S1.put ⟨a, u, List.getElem?_set_self hi, o, hu, c⟩ fun d b _ e k _ => ?_, T1.tr, T1.dom, fun k b w => ?_⟩
        · cases e; exact nw k
        · obtain ⟨⟨d, e1⟩, e2⟩ := w
          by_cases hk : i = k
          · subst hk
            rw [List.getElem?_set_self hi] at e2
            cases e2
            exact .inr n
          · rw [List.getElem?_set_ne hk] at e1 e2
            exact T1.ow k b ⟨⟨d, e1⟩, e2⟩
      · rw [List.set_eq_of_length_le (by rw [S1.len]; simpa using hi), List.set_eq_of_length_le (by simpa using hi)]
        exact ⟨O1, S1, T1⟩
    · exact shr
theorem le_asg {D : Ends} {σ : L2.St} {H : Hp} (h : tS R W (.asg i ce) D σ H) : tAsg (tE R W ce) (gName i) D σ H := by
  obtain ⟨O, ρ, S, A⟩ := h
  rw [evS] at A
  split at A
  · rename_i ok
    refine ⟨O, ρ, S, A.toF fun r ρ1 O1 H1 S1 T1 A1 v rr => ?_⟩
    obtain ⟨O2, S2, T2⟩ := S1.putR (i := i) (mu := R.cf.mu.contains i) T1 rr
    exact A1 O2 H1 _ S2 T2 (Fx.set (stOk_of ok i (by simp)))
  · exact A.elim
theorem ms_asg {p : Pos} (hN : X.N.Nodup) (hi : X.N[i]? = some x) (hx : Loc X.env.scope x) (he : PE X e (tE R W ce)) (hs : swapsWith e (some (.Name x p)) pos.line X.env = pure false) (hf : X.fn x = true ∨ X.env.scope.names.lookup x = some .local) :
    PS X (.Assign [.Name x p] e pos) (tS R W (.asg i ce)) := ps_wk (ps_set hN hi hx he hs hf) fun D σ H h => le_asg h
theorem ms_asgT {is : List Nat} {es : List Expr} {kk : Nat} {p : Pos} (he : PE X e (tE R W ce)) (hg : PG X (.Tuple es kk p) (gOf R.K (.tp is))) (hs : swapsWithSole [.Tuple es kk p] e pos.line X.env = pure false) (hw : swappedStores [.Tuple es kk p] e X.env = pure none) :
    PS X (.Assign [.Tuple es kk p] e pos) (tS R W (.asgT is ce)) := ps_wk (ps_asg he hg hs hw) fun D σ H ⟨O, ρ, S, A⟩ => by
  rw [evS] at A
  split at A
  · rename_i ok
    refine ⟨O, ρ, S, A.toF fun r ρ1 O1 H1 S1 T1 A1 v rr => ?_⟩
    obtain ⟨O', S', T', rp, _⟩ := give S1 T1 rr
    split at A1
    · rename_i ρ2 e2
      exact g_ok S' rp e2 fun σ' S2 T2 w => A1 O' H1 σ' S2 (T'.trans T2) fun j hj => (fx_w (w is fun _ h => h) fun h => stOk_of ok j h hj)
    · exact A1.elim
  · exact A.elim
where
  fx_w {σ σ' : L2.St} {is : List Nat} {j : Nat} (h : L2.wipe σ' is = L2.wipe σ is) (n : j ∉ is) : σ'[j]? = σ[j]? := by
    rw [← wipe_out (σ := σ') n, ← wipe_out (σ := σ) n, h]
end
end Mi
end
section
namespace Mi
open PySem PySem.Spec L2
section
variable {X : Cx} {R : Rt} {W : WX} {sts : List Stmt} {cs : List CS} {e tg iter : Expr} {ce cit : CE} {pos : Pos} {T : Tg}
theorem unl_ok {J : It} {O : Addr → Prop} {H : Hp} {ρ ρ2 : Env} {σ : L2.St} {l : Option Nat} {xs : List D} (S : SR R.K O H ρ σ) (w : Wlk R.K J O H (kpOf ρ σ l) xs) (e : unlE ρ l = some ρ2) :
    ∃ O2, SR R.K O2 H ρ2 σ ∧ Step O H ρ σ O2 H ρ2 σ ∧ Wlk R.K J O2 H (fun _ => False) xs := by
  cases l with
  | none =>
    cases e
    refine ⟨O, S, Step.refl, w.later Mono.refl (fun a u _ h => h) fun a ⟨i, h, _⟩ => nomatch h⟩
  | some i =>
    unfold unlE at e
    simp only at e
    split at e
    · rename_i ys hs
      cases e
      obtain ⟨a, u, ea', oa, hu, ct⟩ := S.sl i _ hs
      obtain ⟨b, ea, S', T', r⟩ := S.shr hs
      rw [ea'] at ea; cases ea
      have m : Mono O H (rel O a) H := S.mono T'
      refine ⟨rel O a, S', T', ?_⟩
      have kp : ∀ O2 H2, Mono (rel O a) H O2 H2 → Kpt (kpOf ρ σ (some i)) H H2 := fun O2 H2 m2 b v kb hb => by
        obtain ⟨j, hj, wj⟩ := kb
        cases hj
        have e2 := wj.2
        rw [ea'] at e2; cases e2
        cases ct with
        | lst q =>
          rw [hu] at hb; cases hb
          exact (m2.box a _ (fun z => z.2 rfl) rfl (.inl hu)).1.lst
      exact ⟨fun k O1 H1 m2 _ => w.goes k O1 H1 (m.trans m2) (kp O1 H1 m2), fun O1 H1 m2 _ => w.stops O1 H1 (m.trans m2) (kp O1 H1 m2), fun k O1 H1 x H2 d m2 _ => w.ylds k O1 H1 x H2 d (m.trans m2) (kp O1 H1 m2)⟩
    · cases e
theorem fx_w {σ σ' : L2.St} {is : List Nat} {j : Nat} (h : L2.wipe σ' is = L2.wipe σ is) (n : j ∉ is) : σ'[j]? = σ[j]? := by
  rw [← wipe_out (σ := σ') n, ← wipe_out (σ := σ) n, h]
theorem le_for {D : Ends} {σ : L2.St} {H : Hp} (h : tS R W (.for T cit cs) D σ H) : tFor (tI R W cit) (gOf R.K T) (tSs R W cs) D σ H := by
  obtain ⟨O, ρ, S, A⟩ := h
  rw [evS] at A
  split at A
  · rename_i ok
    refine ⟨O, ρ, S, A.toF fun xl ρ1 O1 H1 S1 T1 A1 J w => ?_⟩
    obtain ⟨xs, l⟩ := xl
    simp only at A1 w
    split at A1
    · rename_i ρ2 e2
      obtain ⟨O2, S2, T2, w2⟩ := unl_ok S1 w e2
      have A2 := A1.rebase (T1.trans T2) Fx.refl
      let P : Nat → L2.St → Hp → Prop := fun i σ' H' => ∃ O' ρ', SR R.K O' H' ρ' σ' ∧ Step O2 H1 ρ2 σ O' H' ρ' σ' ∧ AnsS R W D σ' O' H' ρ' (forW T (evSs R.cf cs) (xs.drop i) ρ')
      refine ⟨fun i m σ' H' => m = xs.length - i ∧ i ≤ xs.length ∧ P i σ' H', ⟨xs.length, by simp, Nat.zero_le _, O2, ρ2, S2, Step.refl, by simpa using A2⟩, ?_⟩
      rintro i m σ' H' ⟨rfl, hi, O', ρ', S', T', A'⟩
      have mo := S2.mono T'
      have kp : Kpt (fun _ => False) H1 H' := fun a u z _ => z.elim
      by_cases hlt : i < xs.length
      · refine .inr ⟨w2.goes i O' H' mo kp hlt, P (i + 1), fun σ2 H2 p => ⟨xs.length - (i + 1), by omega, rfl, hlt, p⟩, fun x H'' y => ?_⟩
        have ex : xs[i]? = some xs[i] := List.getElem?_eq_getElem hlt
        obtain ⟨S3, T3, rx⟩ := (w2.ylds i O' H' x H'' _ mo kp ex y).go S'
        rw [List.drop_eq_getElem_cons hlt, forW] at A'
        cases es : setT T xs[i] ρ' with
        | none => rw [es] at A'; exact A'.elim
        | some ρ4 =>
          rw [es] at A'
          simp only at A'
          refine g_ok S3 rx es fun σ4 S4 T4 wp => ⟨O', ρ4, S4, ?_⟩
          have A4 := A'.rebase (T3.trans T4) fun j hj => fx_w (wp (tgL T) fun _ h => h) fun z => stOk_of ok j z hj
          cases eb : evSs R.cf cs ρ4 with
          | nx ρ5 =>
            rw [eb] at A4
            exact fun O7 H7 σ7 S7 T7 y7 => ⟨O7, ρ5, S7, ((T'.trans T3).trans T4).trans T7, AnsS.rebase A4 T7 y7⟩
          | bk ρ5 => rw [eb] at A4; exact A4
          | rt r ρ5 => rw [eb] at A4; exact A4
          | mv j d ρ5 => rw [eb] at A4; exact A4
          | exc z ρ5 => rw [eb] at A4; exact A4
          | bad => rw [eb] at A4; exact A4
      · have e : i = xs.length := by omega
        subst e
        rw [List.drop_length] at A'
        exact .inl ⟨w2.stops O' H' mo kp, A' O' H' σ' S' Step.refl Fx.refl⟩
    · exact A1.elim
  · exact A.elim
theorem ms_for (hp : PassesOwn (model X.prog X.w) X.A X.env X.xe) (hc : X.calm = true) (hi : PI X tg iter (tI R W cit)) (hg : PG X tg (gOf R.K T)) (hb : PSs X sts (tSs R W cs)) (hs : ∀ x, foldedSetIterable iter X.env x = pure x) :
    PS X (.For tg iter sts [] pos) (tS R W (.for T cit cs)) := ps_wk (ps_for hp hc hi hg hb hs) fun D σ H h => le_for h
theorem ms_while (hp : PassesOwn (model X.prog X.w) X.A X.env X.xe) (hc : PT X e (tT R W ce)) (hb : PSs X sts (tSs R W cs)) : PS X (.While e sts [] pos) (tS R W (.whl ce cs)) := ps_wk (ps_while hp hc hb) fun D σ H ⟨O, ρ, S, A⟩ => by
  rw [evS] at A
  refine ⟨fun m σ H => ∃ O ρ, SR R.K O H ρ σ ∧ AnsS R W D σ O H ρ (whlW (fun ρ => (evE R.cf ce ρ).bind fun r ρ' => lift (tru r.2) ρ') (evSs R.cf cs) m ρ), ⟨R.cf.fuel, O, ρ, S, A⟩, ?_⟩
  rintro m σ1 H1 ⟨O1, ρ1, S1, A1⟩
  cases m with
  | zero => exact A1.elim
  | succ n =>
    rw [whlW] at A1
    refine ⟨O1, ρ1, S1, ?_⟩
    cases ec : evE R.cf ce ρ1 with
    | bad => rw [ec] at A1; exact A1
    | exc x ρ' =>
      rw [ec] at A1
      exact fun O' H' s t => A1 O' H' σ1 s t Fx.refl
    | ok r ρ2 =>
      rw [ec] at A1
      intro O2 H2 S2 T2
      cases eb : tru r.2 with
      | none => simp only [Out.bind, eb] at A1; exact A1.elim
      | some b =>
        simp only [Out.bind, eb, Mi.lift] at A1
        refine ⟨b, rfl, ?_⟩
        cases b with
        | false =>
          simp only at A1
          exact A1 O2 H2 σ1 S2 T2 Fx.refl
        | true =>
          simp only at A1
          rw [if_pos rfl]
          refine ⟨fun σ H => ∃ O ρ, SR R.K O H ρ σ ∧ AnsS R W D σ O H ρ (whlW (fun ρ => (evE R.cf ce ρ).bind fun r ρ' => lift (tru r.2) ρ') (evSs R.cf cs) n ρ), fun σ' H' p => ⟨n, Nat.lt_succ_self n, p⟩, O2, ρ2, S2, ?_⟩
          have A3 := A1.rebase T2 Fx.refl
          cases es : evSs R.cf cs ρ2 with
          | nx ρ5 =>
            rw [es] at A3
            exact fun O7 H7 σ7 S7 T7 y7 => ⟨O7, ρ5, S7, AnsS.rebase A3 T7 y7⟩
          | bk ρ5 => rw [es] at A3; exact A3
          | rt r ρ5 => rw [es] at A3; exact A3
          | mv j d ρ5 => rw [es] at A3; exact A3
          | exc z ρ5 => rw [es] at A3; exact A3
          | bad => rw [es] at A3; exact A3
theorem SR.wr {K : PySem.W.Frag} {O : Addr → Prop} {H : Hp} {ρ : Env} {σ : L2.St} {i : Nat} {d d' : D} {a : Addr} {u' : HO} (S : SR K O H ρ σ) (q : ρ[i]? = some (.own d)) (ea : σ[i]? = some (some (.ref a))) (c : Ct K O H u' d') :
    SR K O (upd H a u') (ρ.set i (.own d')) σ ∧ Step O H ρ σ O (upd H a u') (ρ.set i (.own d')) σ ∧ Mono O H O (upd H a u') := by
  obtain ⟨b, u, ea', oa, hu, ct⟩ := S.sl i _ q
  rw [ea] at ea'; cases ea'
  have hi : i < ρ.length := (List.getElem?_eq_some_iff.mp q).1
  have m : Mono O H O (upd H a u') := ⟨fun b w n k r => by
    have ne : b ≠ a := fun e => n (e ▸ oa)
    unfold Rl
    rw [upd_ne ne]
    exact ⟨r, n⟩, fun b xs r => by rw [upd_ne (cont_ne hu ct.cont r rfl)]; exact r, fun b o w r => by rw [upd_ne (cont_ne hu ct.cont r rfl)]; exact r⟩
  have own : ∀ k b, Own (ρ.set i (.own d')) σ k b → Own ρ σ k b := fun k b ⟨⟨d2, e1⟩, e2⟩ => by
    by_cases hk : i = k
    · subst hk; exact ⟨⟨d, q⟩, e2⟩
    · rw [List.getElem?_set_ne hk] at e1
      exact ⟨⟨d2, e1⟩, e2⟩
  refine ⟨⟨fun b ob => ?_, fun k s hs => ?_, fun k j b x y => S.inj k j b (own k b x) (own j b y), by rw [List.length_set]; exact S.len⟩, ⟨fun b o hb n => ⟨by rw [upd_ne (fun e => by subst e; exact n i ⟨⟨d, q⟩, ea⟩)]; exact hb, .rfl⟩, fun b hb => ?_, fun k b w => .inl (own k b w)⟩, m⟩
  · by_cases e : b = a
    · subst e; exact ⟨u', upd_same, c.cont⟩
    · rw [upd_ne e]; exact S.oc b ob
  · by_cases hk : i = k
    · subst hk
      rw [List.getElem?_set_self hi] at hs; cases hs
      exact ⟨a, u', ea, oa, upd_same, c.mono m⟩
    · rw [List.getElem?_set_ne hk] at hs
      have z := S.sl k s hs
      cases s with
      | emp => trivial
      | shr d => obtain ⟨v, e, r⟩ := z; exact ⟨v, e, r.mono m⟩
      | own d2 =>
        obtain ⟨b, w, e, o, h, c2⟩ := z
        have ne : b ≠ a := fun e' => by subst e'; exact hk (S.inj i k _ ⟨⟨d, q⟩, ea⟩ ⟨⟨d2, hs⟩, e⟩)
        exact ⟨b, w, e, o, by rw [upd_ne ne]; exact h, c2.mono m⟩
  · by_cases e : b = a
    · subst e; rw [upd_same]; intro z; cases z
    · rw [upd_ne e]; exact hb
theorem ms_app {i : Nat} {o : Expr} {apos cpos : Pos} (ho : PE X o (tVar i)) (he : PE X e (tE R W ce)) (hp : plainE e = true) (hbase : attributeBase o "append" X.env (eval o X.env) = eval o X.env) (hline : (apos.endLine == cpos.line) = true)
    (hs : swapsWith (.Call (.Attribute o "append" apos) [e] [] cpos) none pos.line X.env = pure false) : PS X (.Expr (.Call (.Attribute o "append" apos) [e] [] cpos) pos) (tS R W (.app i ce)) := by
  refine ps_wk (ps_expr (pe_bm PySem.F.plainAttrs_list PySem.F.slot_list_append PySem.F.type_list_append mt_append ho (pa_cons he pa_nil (star_of hp)) hbase (by rw [star1 hp]; rfl) hline (star_of hp) rfl) hs) fun D σ H ⟨O, ρ, S, A⟩ => ?_
  rw [evS] at A
  split at A
  · rename_i xs0 q0
    obtain ⟨a, u, ea, oa, hu, ct⟩ := S.sl i _ q0
    refine ⟨.ref a, ea, ?_, ?_⟩
    · cases ct with
      | @lst vs _ r => exact .inl ⟨rfl, vs, .of hu⟩
    · refine ⟨O, ρ, S, A.toF fun r ρ1 O1 H1 S1 T1 A1 v rr => ?_⟩
      obtain ⟨O', S', T', rp, _⟩ := give S1 T1 rr
      split at A1
      · rename_i xs q
        split at A1
        · rename_i hl
          obtain ⟨a', u', ea', oa', hu', ct'⟩ := S'.sl i _ q
          rw [ea] at ea'; cases ea'
          cases ct' with
          | @lst vs _ rv =>
            obtain ⟨S2, T2, m2⟩ := S'.wr (u' := .lst (vs ++ [v])) q ea (.lst (rv.append (.cons rp .nil)))
            refine ⟨a, vs, v, rfl, rfl, hu', by rw [rv.length]; exact hl, ?_⟩
            exact A1 O' _ σ S2 (T'.trans T2) Fx.refl
        · exact A1.elim
      · exact A1.elim
  · exact A.elim
end
end Mi
end
section
namespace Mi
open PySem PySem.Spec L2
section
variable {K : PySem.W.Frag} {O : Addr → Prop} {H : Hp}
theorem RpL.set : ∀ {vs : List V} {ds : List D} {v : V} {d : D} (i : Nat), RpL K O H vs ds → Rp K O H v d → RpL K O H (vs.set i v) (ds.set i d)
  | _, _, _, _, _, .nil, _ => .nil
  | _, _, _, _, 0, .cons _ r, h => .cons h r
  | _, _, _, _, i + 1, .cons h' r, h => .cons h' (RpL.set i r h)
theorem put_of {κ : Type} [DecidableEq κ] {f : κ → D} (fe : ∀ a b, keyEq (f a) (f b) = decide (a = b)) (k : κ) {kvs : List (κ × V)} {ds : List (D × D)} {v : V} {d : D}
    (e : ds.map (·.1) = kvs.map (fun p => f p.1)) (r : RpL K O H (kvs.map (·.2)) (ds.map (·.2))) (h : Rp K O H v d) :
    (putD ds (f k) d).map (·.1) = (putK kvs k v).map (fun p => f p.1) ∧ RpL K O H ((putK kvs k v).map (·.2)) ((putD ds (f k) d).map (·.2)) := by
  have any : ∀ (kvs : List (κ × V)) (ds : List (D × D)), ds.map (·.1) = kvs.map (fun p => f p.1) → (ds.any fun p => keyEq p.1 (f k)) = (kvs.any fun p => decide (p.1 = k)) := fun kvs => by
    induction kvs with
    | nil => intro ds e; cases ds with
      | nil => rfl
      | cons p ps => cases e
    | cons q qs ih => intro ds e; cases ds with
      | nil => cases e
      | cons p ps =>
        rw [List.map_cons, List.map_cons, List.cons.injEq] at e
        rw [List.any_cons, List.any_cons, ih ps e.2, e.1, fe]
  have mp : ∀ (kvs : List (κ × V)) (ds : List (D × D)), ds.map (·.1) = kvs.map (fun p => f p.1) → RpL K O H (kvs.map (·.2)) (ds.map (·.2)) →
      (ds.map (fun p => if keyEq p.1 (f k) = true then (p.1, d) else p)).map (·.1) = (kvs.map (fun kv => if kv.1 = k then (kv.1, v) else kv)).map (fun p => f p.1) ∧
      RpL K O H ((kvs.map (fun kv => if kv.1 = k then (kv.1, v) else kv)).map (·.2)) ((ds.map (fun p => if keyEq p.1 (f k) = true then (p.1, d) else p)).map (·.2)) := fun kvs => by
    induction kvs with
    | nil => intro ds e r; cases ds with
      | nil => exact ⟨rfl, .nil⟩
      | cons p ps => cases e
    | cons q qs ih => intro ds e r; cases ds with
      | nil => cases e
      | cons p ps =>
        rw [List.map_cons, List.map_cons, List.cons.injEq] at e
        cases r with
        | cons r1 r2 =>
          obtain ⟨h1, h2⟩ := ih ps e.2 r2
          have ek : keyEq p.1 (f k) = decide (q.1 = k) := by rw [e.1, fe]
          simp only [List.map_cons]
          by_cases hk : q.1 = k
          · have e3 : keyEq p.1 (f k) = true := by rw [ek]; exact decide_eq_true hk
            rw [if_pos e3, if_pos hk]
            exact ⟨by rw [h1, e.1], .cons h h2⟩
          · have e3 : ¬ keyEq p.1 (f k) = true := by rw [ek]; simpa using hk
            rw [if_neg e3, if_neg hk]
            exact ⟨by rw [h1, e.1], .cons r1 h2⟩
  unfold putD putK
  rw [any kvs ds e]
  split
  · exact mp kvs ds e r
  · rw [List.map_append, List.map_append, List.map_append, List.map_append, e]
    exact ⟨rfl, r.append (.cons h .nil)⟩
end
section
variable {X : Cx}
def rSetM (K : PySem.W.Frag) : TSet := fun o i v H Q => ∃ O a u d k dv d', o = .ref a ∧ O a ∧ H a = some u ∧ Ct K O H u d ∧ Rp K O H i k ∧ Rp K O H v dv ∧ setOp d k dv = some d' ∧ ∀ u', Ct K O H u' d' → Q (upd H a u')
theorem ct_len {K : PySem.W.Frag} {O : Addr → Prop} {H : Hp} {κ : Type} {f : κ → D} {kvs : List (κ × V)} {ds : List (D × D)} (e : ds.map (·.1) = kvs.map (fun p => f p.1)) : kvs.length = ds.length := by
  have := congrArg List.length e
  simpa using this.symm
theorem set_M (hu : X.A.units + 200 < cLine) : PSet X (rSetM X.K) := by
  intro pins s σ H o i v ov iv u Q I ro ri rv ⟨O, a, w, d, k, dv, d', eo, oa, ha, ct, hk, hv, es, q⟩
  subst eo
  cases d with
  | list ds =>
    cases k with
    | int n =>
      obtain ⟨j, ej, rfl⟩ := Option.map_eq_some_iff.mp (show (ixN ds.length n).map (fun j => PyData.list (ds.set j dv)) = some d' from es)
      obtain rfl := hk.rq.int
      cases ct with
      | @lst xs _ r => exact set_list pins s σ H _ _ v ov iv u Q I ro ri rv ⟨a, xs, n, j, rfl, rfl, ha, by rw [r.length]; exact ej, q _ (.lst (r.set j hv))⟩
    | _ => cases es
  | dict ds =>
    have es : (if fitsK ds k = true ∧ ds.length < sizeLine then some (PyData.dict (putD ds k dv)) else none) = some d' := by
      cases k <;> exact es
    split at es
    · rename_i ok
      cases es
      obtain ⟨fit, hl⟩ := ok
      obtain ⟨ko, dk, sm⟩ := fitsK_of fit
      have hu1 : X.A.units + 1 < cLine := by omega
      have flat : flatK k = true → ∃ q, i = kV q ∧ k = keyD q := kV_of hk.rq
      have tupl : flatK k = false → ∃ (b : Addr) (qs : List Key), i = .ref b ∧ H b = some (.tup (qs.map kV)) ∧ k = .tuple (qs.map keyD) := fun e => by
        cases k with
        | none => cases ko
        | bool _ => cases ko
        | int _ => cases e
        | str _ => cases e
        | list _ => cases ko
        | dict _ => cases ko
        | tuple xs =>
          cases hk with
          | tup h r =>
            obtain ⟨qs, rfl, rfl⟩ := kVs_of r ko
            exact ⟨_, qs, rfl, h, rfl⟩
          | box _ _ c => cases c
      cases ct with
      | @dk kvs _ e r =>
        cases fk : flatK k with
        | true =>
          obtain ⟨z, rfl, rfl⟩ := flat fk
          obtain ⟨e1, e2⟩ := put_of (fun _ _ => keyEq_k) z e r hv
          exact set_dict hu1 pins s σ H _ _ v ov iv u Q I ro ri rv ⟨a, _, rfl, .k ha (by rw [ct_len (K := X.K) (O := O) (H := H) e]; exact hl), q _ (.dk e1 e2)⟩
        | false =>
          obtain ⟨b, qs, rfl, hb, rfl⟩ := tupl fk
          have em : ds = [] := by
            cases ds with
            | nil => rfl
            | cons p ps =>
              cases kvs with
              | nil => cases e
              | cons p' ps' =>
                rw [List.map_cons, List.map_cons, List.cons.injEq] at e
                have z := sm p List.mem_cons_self
                rw [e.1] at z
                obtain ⟨q, _⟩ := p'
                cases q <;> cases z
          subst em
          have ek : kvs = [] := by
            cases kvs with
            | nil => rfl
            | cons p ps => cases e
          subst ek
          obtain ⟨e1, e2⟩ := put_of (K := X.K) (O := O) (H := H) (f := fun q => .tuple (q.map keyD)) (kvs := []) (ds := []) (fun _ _ => keyEq_t) qs rfl .nil hv
          have ne : b ≠ a := ne_of hb ha (fun z => nomatch z)
          refine set_dict hu1 pins s σ _ _ _ v ov iv u Q (Inv.asT I ha) ro ri rv ⟨a, _, rfl, .t upd_same (by rw [upd_ne ne]; exact hb) (by decide), ?_⟩
          rw [upd_upd]
          exact q _ (.dt e1 e2)
      | @dt kvs _ e r =>
        cases fk : flatK k with
        | true =>
          obtain ⟨z, rfl, rfl⟩ := flat fk
          have em : ds = [] := by
            cases ds with
            | nil => rfl
            | cons p ps =>
              cases kvs with
              | nil => cases e
              | cons p' ps' =>
                rw [List.map_cons, List.map_cons, List.cons.injEq] at e
                have z := sm p List.mem_cons_self
                rw [e.1] at z
                cases ‹Key› <;> cases z
          subst em
          have ek : kvs = [] := by
            cases kvs with
            | nil => rfl
            | cons p ps => cases e
          subst ek
          obtain ⟨e1, e2⟩ := put_of (K := X.K) (O := O) (H := H) (f := keyD) (kvs := []) (ds := []) (fun _ _ => keyEq_k) z rfl .nil hv
          refine set_dict hu1 pins s σ _ _ _ v ov iv u Q (Inv.asK I ha) ro ri rv ⟨a, _, rfl, .k upd_same (by decide), ?_⟩
          rw [upd_upd]
          exact q _ (.dk e1 e2)
        | false =>
          obtain ⟨b, qs, rfl, hb, rfl⟩ := tupl fk
          obtain ⟨e1, e2⟩ := put_of (f := fun q => .tuple (q.map keyD)) (fun _ _ => keyEq_t) qs e r hv
          exact set_dict hu1 pins s σ H _ _ v ov iv u Q I ro ri rv ⟨a, _, rfl, .t ha hb (by rw [ct_len (K := X.K) (O := O) (H := H) (f := fun (q : List Key) => PyData.tuple (q.map keyD)) e]; exact hl), q _ (.dt e1 e2)⟩
    · cases es
  | _ => cases es
end
section
variable {X : Cx} {R : Rt} {W : WX} {e o k : Expr} {ce ck : CE} {pos : Pos} {i : Nat} {x : Str}
def noSlice : Expr → Bool
  | .Slice _ _ _ _ => false
  | _ => true
theorem asg_sub {o k : Expr} {p : Pos} {env : PySem.Env} {v : Value} (h : noSlice k = true) : assign (.Subscript o k p) env v = (do
    let ov ← holding [v] (eval o env)
    let iv ← holding [v, ov] (eval k env)
    standAt p
    holding [v, ov, iv] (setItem ov iv v)
    release [v, ov, iv] []) := by
  cases k <;> first | rfl | cases h
theorem ms_sub {p : Pos} (hK : X.K = R.K) (hu : X.A.units + 200 < cLine) (ho : PE X o (tVar i)) (hk : PE X k (tE R W ck)) (he : PE X e (tE R W ce)) (hs : swapsWithSole [.Subscript o k p] e pos.line X.env = pure false) (hw : swappedStores [.Subscript o k p] e X.env = pure none) (hix : noSlice k = true) :
    PS X (.Assign [.Subscript o k p] e pos) (tS R W (.sub i ck ce)) := by
  refine ps_wk (ps_asg he (pg_sub ho hk (set_M hu) (fun v => asg_sub hix)) hs hw) fun D σ H ⟨O, ρ, S, A⟩ => ?_
  rw [evS] at A
  refine ⟨O, ρ, S, A.toF fun r ρ1 O1 H1 S1 T1 A1 v rr => ?_⟩
  obtain ⟨O1, S1, T1, rp, _⟩ := give S1 T1 rr
  split at A1
  · rename_i d0 q0
    obtain ⟨a, u, ea, _, _, _⟩ := S1.sl i _ q0
    refine ⟨.ref a, ea, O1, ρ1, S1, (A1.rebase T1 Fx.refl).toF fun r2 ρ2 O2 H2 S2 T2 A2 y ry => ?_⟩
    obtain ⟨O2, S2, T2, rq, _⟩ := give S2 T2 ry
    split at A2
    · rename_i d q
      split at A2
      · rename_i d' es
        obtain ⟨a', u', ea', oa, hu', ct⟩ := S2.sl i _ q
        rw [ea] at ea'; cases ea'
        rw [hK]
        refine ⟨O2, a, u', d, r2.2, r.2, d', rfl, oa, hu', ct, rq, rp.mono (S1.mono T2), es, fun w cw => ?_⟩
        obtain ⟨S3, T3, _⟩ := S2.wr q ea cw
        exact A2 O2 _ σ S3 (T2.trans T3) Fx.refl
      · exact A2.elim
    · exact A2.elim
  · exact A1.elim
end
end Mi
end
section
namespace Mi
open PySem PySem.Spec L2
section
variable {X : Cx}
theorem RpL.pairs {K : PySem.W.Frag} {O : Addr → Prop} {H : Hp} : ∀ {vs : List V} {ds : List D}, RpL K O H vs ds → ∃ ps : List (V × D), ps.map (·.1) = vs ∧ ps.map (·.2) = ds ∧ ∀ p ∈ ps, Rp K O H p.1 p.2
  | _, _, .nil => ⟨[], rfl, rfl, fun _ h => by simp at h⟩
  | _, _, @RpL.cons _ _ _ v d vs ds h r => by
    obtain ⟨ps, h1, h2, h3⟩ := RpL.pairs r
    refine ⟨(v, d) :: ps, by rw [List.map_cons, h1], by rw [List.map_cons, h2], fun p hp => ?_⟩
    rcases List.mem_cons.mp hp with e | hp
    · subst e; exact h
    · exact h3 p hp
theorem RpL.of_pairs {K : PySem.W.Frag} {O : Addr → Prop} {H : Hp} : ∀ {ps : List (V × D)}, (∀ p ∈ ps, Rp K O H p.1 p.2) → RpL K O H (ps.map (·.1)) (ps.map (·.2))
  | [], _ => .nil
  | p :: ps, h => .cons (h p List.mem_cons_self) (RpL.of_pairs fun q hq => h q (List.mem_cons_of_mem _ hq))
theorem each_pairs : ∀ {ps : List (V × D)} {us : List Value}, Vals (ps.map (·.1)) us → PySem.W.EachIs (fun u (p : V × D) => RelV p.1 u) us ps
  | [], _, .nil => .nil
  | p :: ps, _, .cons r t => .cons r (each_pairs t)
theorem vals_pairs : ∀ {ps : List (V × D)} {us : List Value}, PySem.W.EachIs (fun u (p : V × D) => RelV p.1 u) us ps → Vals (ps.map (·.1)) us
  | [], _, .nil => .nil
  | p :: ps, _, .cons r t => .cons r (vals_pairs t)
theorem sortable_of {ds : List D} (h : sortable ds = true) : PySem.W.AllAlike ds ∧ PySem.W.Sortable ds ∧ (∀ d ∈ ds, d.plain = true) ∧ ∀ d ∈ ds, d.depth ≤ 64 := by
  unfold sortable at h
  rw [Bool.and_eq_true, Bool.or_eq_true] at h
  obtain ⟨h1, h2⟩ := h
  rw [List.all_eq_true] at h1
  have k : ∀ d ∈ ds, d.plain = true ∧ d.depth ≤ 64 ∧ ∀ e ∈ ds, PySem.W.alike d e = true := fun d hd => by
    have := h1 d hd
    rw [Bool.and_eq_true, Bool.and_eq_true, decide_eq_true_eq, List.all_eq_true] at this
    exact ⟨this.1.1, this.1.2, this.2⟩
  refine ⟨fun d hd e he => (k d hd).2.2 e he, ?_, fun d hd => (k d hd).1, fun d hd => (k d hd).2.1⟩
  rcases h2 with h2 | h2
  · rw [List.all_eq_true] at h2
    refine .inl fun d hd => ?_
    have := h2 d hd
    cases d with
    | tuple xs => cases xs with
      | nil => cases this
      | cons x r => exact ⟨x, r, rfl⟩
    | _ => cases this
  · rw [List.all_eq_true] at h2
    refine .inr fun d hd => ?_
    have := h2 d hd
    refine ⟨fun e => ?_, fun xs e => ?_⟩
    · subst e; cases this
    · subst e; cases this
theorem cr_sortedM (hu : X.A.units + 200 < cLine) : CallR X (.builtin "sorted") (rB1 X.K .sorted) := by
  intro pins s σ H xs us Q I r hh
  obtain ⟨O, x, d, rs, rfl, h, e, q⟩ := hh
  have e : ((listOf d).bind fun xs => if sortable xs = true then some ((true, PyData.list (sortD xs)) : Rs) else none) = some rs := e
  obtain ⟨ds, hd, e⟩ := Option.bind_eq_some_iff.mp e
  split at e
  · rename_i ok
    cases e
    cases d with
    | list ds' =>
      cases hd
      obtain ⟨a, zs, rfl, ha, ra⟩ := h.list
      obtain ⟨ps, rfl, rfl, hp⟩ := ra.pairs
      obtain ⟨al, so, pl, dep⟩ := sortable_of ok
      obtain ⟨u, us', rx, rfl, r2⟩ : ∃ u us', RelV (.ref a) u ∧ us = u :: us' ∧ us' = [] := by
        cases r with
        | cons r1 r2 => cases r2; exact ⟨_, _, r1, rfl, rfl⟩
      subst r2
      cases rx
      obtain ⟨its, rv, p, hz⟩ := I.list (.of ha)
      have er : PySem.W.EachIs (fun v (b : V × D) => ∃ as, Reads s.heap v b.2 as) its ps := by
        have go : ∀ {qs : List (V × D)} {us : List Value}, (∀ p ∈ qs, Rp X.K O H p.1 p.2 ∧ p.2.plain = true) → Vals (qs.map (·.1)) us → PySem.W.EachIs (fun v (b : V × D) => ∃ as, Reads s.heap v b.2 as) us qs := fun {qs} => by
          induction qs with
          | nil => intro us _ rv; cases rv; exact .nil
          | cons p ps ih =>
            intro us hq rv
            cases rv with
            | cons r t => exact .cons (Dp.reads I p.2 p.1 _ ((hq p List.mem_cons_self).1.dp (hq p List.mem_cons_self).2) r) (ih (fun q h => hq q (List.mem_cons_of_mem _ h)) t)
        exact go (fun p h => ⟨hp p h, pl p.2 (List.mem_map.mpr ⟨p, h, rfl⟩)⟩) rv
      have hl : ps.length ≤ sizeLine := by simpa using hz
      refine PySem.W.sorted_data (R := fun u (p : V × D) => RelV p.1 u) (enc := fun p => p.2) (bs := ps) p.isList (each_pairs rv) er al so hl (fun b hb => ?_) fun out ho eo => ?_
      · have := dep b.2 (List.mem_map.mpr ⟨b, hb, rfl⟩)
        omega
      · obtain ⟨ep, he'⟩ := PyProof.Rows.sortedAll_at s.heap its out.toArray
        have hv := vals_pairs eo
        have hms : (ps.mergeSort (PySem.W.dataLe false fun p => p.2)).map (·.2) = sortD (ps.map (·.2)) := by
          unfold sortD
          exact List.map_mergeSort fun a _ b _ => rfl
        have hperm := List.mergeSort_perm ps (PySem.W.dataLe false fun p => p.2)
        have hlen : ((ps.mergeSort (PySem.W.dataLe false fun p => p.2)).map (·.1)).length ≤ sizeLine := by
          rw [List.length_map, hperm.length_eq]; exact hl
        have nn : H (s.heap.objs.size + 1) = none := I.hok.fresh (Nat.le_succ _)
        refine ⟨.ref _, upd H (s.heap.objs.size + 1) (.lst ((ps.mergeSort (PySem.W.dataLe false fun p => p.2)).map (·.1))), I.laid (t' := s.toks) (fun _ _ => PyProof.Rows.sortedAll_old) (Nat.le_succ _) ⟨hlen, out, ep, hv, he'⟩, rfl, ?_⟩
        refine q _ _ (.new nn (.lst ?_)) (fun _ _ => upd_new nn)
        rw [← hms]
        exact RpL.of_pairs fun p h => hp p (hperm.mem_iff.mp h)
    | _ => cases hd
  · cases e
end
end Mi
end
section
namespace Mi
open PySem PySem.Spec L2
section
variable {X : Cx} {K : PySem.W.Frag} {O : Addr → Prop} {H : Hp}
theorem merge_of : ∀ {kvs : List (Key × V)} {ps : List (D × D)} {acc : List (Key × V)} {ds : List (D × D)}, ps.map (·.1) = kvs.map (fun p => keyD p.1) → RpL K O H (kvs.map (·.2)) (ps.map (·.2)) → ds.map (·.1) = acc.map (fun p => keyD p.1) → RpL K O H (acc.map (·.2)) (ds.map (·.2)) →
    (mergeD ds ps).map (·.1) = (mergeK acc kvs).map (fun p => keyD p.1) ∧ RpL K O H ((mergeK acc kvs).map (·.2)) ((mergeD ds ps).map (·.2))
  | [], [], acc, ds, _, _, e, r => ⟨e, r⟩
  | [], p :: ps, _, _, e, _, _, _ => by cases e
  | q :: qs, [], _, _, e, _, _, _ => by cases e
  | q :: qs, p :: ps, acc, ds, e, r, e2, r2 => by
    rw [List.map_cons, List.map_cons, List.cons.injEq] at e
    cases r with
    | cons r1 rr =>
      obtain ⟨h1, h2⟩ := put_of (fun _ _ => keyEq_k) q.1 e2 r2 r1
      rw [← e.1] at h1 h2
      have z := merge_of e.2 rr h1 h2
      exact z
theorem pairs_pt : ∀ {zs : List V} {xs : List D} {ps : List (D × D)}, RpL K O H zs xs → pairsOf xs = some ps → (ps.all fun p => flatK p.1) = true →
    ∃ (as : List Addr) (kvs : List (Key × V)), zs = as.map V.ref ∧ Paired (fun p kv => SqT K H p [kV kv.1, kv.2]) as kvs ∧ ps.map (·.1) = kvs.map (fun p => keyD p.1) ∧ RpL K O H (kvs.map (·.2)) (ps.map (·.2))
  | _, _, ps, .nil, e, _ => by cases e; exact ⟨[], [], rfl, .nil, rfl, .nil⟩
  | _, _, ps, @RpL.cons _ _ _ v d vs ds h r, e, fl => by
    obtain ⟨p, hp, e⟩ := Option.bind_eq_some_iff.mp (show ((pairOf d).bind fun p => (pairsOf ds).map (p :: ·)) = some ps from e)
    obtain ⟨qs, hq, rfl⟩ := Option.map_eq_some_iff.mp e
    rw [List.all_cons, Bool.and_eq_true] at fl
    obtain ⟨as, kvs, h1, h2, h3, h4⟩ := pairs_pt r hq fl.2
    have ed : d = .tuple [p.1, p.2] := by
      unfold pairOf at hp
      split at hp
      · cases hp; rfl
      · cases hp
    subst ed
    obtain ⟨a, xs, rfl, ha, ra⟩ := h.rq.tup
    cases ra with
    | cons k1 k2 =>
      cases k2 with
      | cons k3 k4 =>
        cases k4
        obtain ⟨key, rfl, ek⟩ := kV_of k1.rq fl.1
        exact ⟨a :: as, (key, _) :: kvs, by rw [h1]; rfl, .cons (.of ha) h2, by rw [List.map_cons, List.map_cons, h3, ek], .cons k3 h4⟩
theorem cr_dictM (hc : X.calm = true) : CallR X (.type "dict") (rB1 X.K .dict) := by
  intro pins s σ H xs us Q I r hh
  obtain ⟨O, x, d, rs, rfl, h, e, q⟩ := hh
  obtain ⟨t, e', rfl⟩ := Option.map_eq_some_iff.mp (show (dictD d).map (fun t => ((true, t) : Rs)) = some rs from e)
  clear e
  have e := e'
  clear e'
  cases d with
  | list ys =>
    obtain ⟨ps, hp, e⟩ := Option.bind_eq_some_iff.mp (show ((pairsOf ys).bind fun ps => if (ps.all fun p => flatK p.1) = true then some (PyData.dict (mergeD [] ps)) else none) = some t from e)
    split at e
    · rename_i fl
      cases e
      obtain ⟨a, zs, rfl, ha, ra⟩ := h.list
      obtain ⟨as, kvs, rfl, h2, h3, h4⟩ := pairs_pt ra hp fl
      obtain ⟨g1, g2⟩ := merge_of (K := X.K) (O := O) (H := H) (acc := []) (ds := []) h3 h4 rfl .nil
      exact call_dictP hc pins s σ H _ us Q I r ⟨a, as, kvs, rfl, .of ha, h2, fun p hp => q _ _ (.new hp (.dk g1 g2)) (fun _ _ => upd_new hp)⟩
    · cases e
  | dict ds =>
    have e : (if (ds.all fun p => flatK p.1) = true then some (PyData.dict ds) else none) = some t := e
    split at e
    · rename_i fl
      cases e
      have dk : dOk ds = true := by
        unfold dOk
        rw [List.all_eq_true] at fl ⊢
        exact fun p hp => by
          have := fl p hp
          cases h : p.1 <;> rw [h] at this <;> first | rfl | cases this
      obtain ⟨a, u, rfl, ru, c⟩ := h.dict dk
      cases c with
      | @dk kvs _ e1 e2 => exact call_dictD pins s σ H _ us Q I r ⟨a, kvs, rfl, ru.rd, fun p hp => q _ _ (.new hp (.dk e1 e2)) (fun _ _ => upd_new hp)⟩
      | @dt kvs _ e1 e2 =>
        have em : ds = [] := by
          cases ds with
          | nil => rfl
          | cons p ps =>
            cases kvs with
            | nil => cases e1
            | cons p' ps' =>
              rw [List.map_cons, List.map_cons, List.cons.injEq] at e1
              rw [List.all_cons, Bool.and_eq_true, e1.1] at fl
              cases fl.1
        subst em
        have ek : kvs = [] := by
          cases kvs with
          | nil => rfl
          | cons p ps => cases e1
        subst ek
        have ha : H a = some (.dT []) := ru.elim id fun z => absurd rfl z.1.2.2
        have I2 := Inv.asK I ha
        refine thn (call_dictD pins s σ _ _ us (fun v H3 => ∃ p, v = .ref p ∧ H p = none ∧ H3 = upd (upd H a (.dK [])) p (.dK [])) I2 r ⟨a, [], rfl, .inl upd_same, fun p hp => ⟨p, rfl, ?_, rfl⟩⟩) fun v s1 ⟨x, H3, I3, r3, p, hx, hp, hH⟩ => ?_
        · by_cases z : p = a
          · subst z; rw [upd_same] at hp; cases hp
          · rw [upd_ne z] at hp; exact hp
        · subst hx hH
          have ne : a ≠ p := ne_of_none ha hp
          have J := Inv.asT I3 (by rw [upd_ne ne, upd_same])
          have eH : upd (upd (upd H a (.dK [])) p (.dK [])) a (.dT []) = upd H p (.dK []) := by
            funext z
            by_cases hz : z = a
            · subst hz; rw [upd_same, upd_ne ne, ha]
            · rw [upd_ne hz]
              by_cases hz2 : z = p
              · subst hz2; rw [upd_same, upd_same]
              · rw [upd_ne hz2, upd_ne hz2, upd_ne hz]
          rw [eH] at J
          exact ⟨_, _, J, r3, q _ _ (.new hp (.dk (kvs := []) rfl .nil)) (fun _ _ => upd_new hp)⟩
    · cases e
  | _ => cases e
end
end Mi
end
section
namespace PySem
open Sem (wp)
open AutoSeq1 (wpAny_loadPart')
theorem meets_enumT (t : Addr) (vs : Array Value) (n : Nat) (dc : Option Addr) (sl : Array (Option Value)) :
    Meets (Builtin.«enumerate.__new__» ⟨[.type "enumerate", .ref t], []⟩) (fun _ R s => s.heap.get? t = some { cls := .type "tuple", dict := dc, data := .seq vs n, slots := sl } ∧
      R (.ok (.ret (.ref (s.heap.push { cls := .type "tuple_iterator", data := .fields #[.ref t, .int 0 0] }).objs.size)))
        { s with heap := (s.heap.push { cls := .type "tuple_iterator", data := .fields #[.ref t, .int 0 0] }).push { cls := .type "enumerate", data := .fields #[.none, .bool false, .ref s.heap.objs.size, rawInt 0, .none, .none] } }) :=
  .of_wp fun prog w A R s h => by
    obtain ⟨hp, gg, dd, tk, os⟩ := s
    obtain ⟨ht, h⟩ := h
    have su := sub_enumerate
    have tT : Heap.IsTuple (Shared.heap ⟨hp, gg, dd, tk, os⟩) t vs := ⟨_, ht, rfl, n, rfl⟩
    wp_walk using wpAny_loadPart' ht
    refine wpAny_stack_any fun sk => wpAny_pure ?_
    split
    · rename_i cc _ _ _ _ _
      cases (cc == Value.type "enumerate") <;> (wp_walk using wpAny_loadPart' ht, wpAny_pyIter_tuple tT; exact ⟨_, rfl, h⟩)
    · wp_walk using wpAny_loadPart' ht, wpAny_pyIter_tuple tT
      exact ⟨_, rfl, h⟩
section
variable {prog : Program} {w : World} {A : Around} {E : Value → Shared → Prop} {s : Shared}
theorem call_enumT {t : Addr} {vs : Array Value} {Q : Value → Shared → Prop} (hT : s.heap.IsTuple t vs)
    (q : ∀ g, IsEnum g (s.heap.objs.size + 1) s.heap.objs.size 0 .none → g.IsTupleIter s.heap.objs.size t 0 → g.objs.size = s.heap.objs.size + 2 → (∀ b o, s.heap.get? b = some o → g.get? b = some o) → Q (.ref (s.heap.objs.size + 1)) { s with heap := g }) :
    wpAny (model prog w) A (call (.type "enumerate") [.ref t]) Q E s := by
  obtain ⟨⟨cl, dc, da, sl⟩, ht, hc, n, hd⟩ := hT
  cases (show cl = .type "tuple" from hc)
  cases (show da = .seq vs n from hd)
  refine callType_new F.called_enumerate (by decide) (F.typeCall_enumerate_1 _) (F.newCall_enumerate_1 _) (fun ob => F.args_object_init_2 ob _) F.entry_enumerate_new (meets_enumT t vs n dc sl) ⟨ht, ?_⟩
  have z : (s.heap.push { cls := .type "tuple_iterator", data := .fields #[.ref t, .int 0 0] }).objs.size = s.heap.objs.size + 1 := Heap.size_push ..
  show _ ∧ _
  rw [z]
  have en : IsEnum ((s.heap.push { cls := .type "tuple_iterator", data := .fields #[.ref t, .int 0 0] }).push { cls := .type "enumerate", data := .fields #[.none, .bool false, .ref s.heap.objs.size, rawInt 0, .none, .none] }) (s.heap.objs.size + 1) s.heap.objs.size 0 .none := by
    have y := Heap.get?_push_size (s.heap.push { cls := .type "tuple_iterator", data := .fields #[.ref t, .int 0 0] }) (o := { cls := .type "enumerate", data := .fields #[.none, .bool false, .ref s.heap.objs.size, rawInt 0, .none, .none] }) rfl
    rw [z] at y
    exact y
  exact ⟨⟨_, en, rfl⟩, q _ en ⟨_, Heap.get?_push_of_some _ (Heap.get?_push_size _ rfl), rfl, rfl⟩ (by rw [Heap.size_push, z]) fun b o x => Heap.get?_push_of_some _ (Heap.get?_push_of_some _ x)⟩
end
end PySem
namespace Mi
open PySem PySem.Spec L2
def ItT (K : PySem.W.Frag) (a : Addr) : It :=
  ⟨fun i H => ∃ (xs : List V) (x : V), SqT K H a xs ∧ xs[i]? = some x, fun i H v H' => ∃ T x, v = .ref T ∧ H T = none ∧ H' = upd H T (.tup [.int (i : Nat), x]) ∧ ∀ xs, SqT K H a xs → xs[i]? = some x, fun i H => ∃ xs : List V, SqT K H a xs ∧ xs.length ≤ i⟩
theorem turn_enT {P : Program} {w : World} {K : PySem.W.Frag} {elts : List Expr} {kk : Nat} {tpos : Pos} (a e it : Addr) :
    Turn P w K (.Tuple elts kk tpos) (ItT K a) [e, it] e (fun i h => (∃ old, IsEnum h e it ((i : Nat) : Int) old) ∧ h.IsTupleIter it a i ∧ e ≠ it ∧ a ≠ it ∧ a ≠ e) where
  mem := by simp
  obj := fun i h st b hb => by
    obtain ⟨⟨old, he⟩, ⟨o, ho, hc, hd⟩, _⟩ := st
    rcases (show b = e ∨ b = it by simpa using hb) with z | z
    · rw [z]; exact ⟨_, he, fun v q => nomatch q⟩
    · rw [z]; exact ⟨o, ho, fun v q => by rw [hd] at q; cases q⟩
  keep := fun i h h' st k => ⟨let ⟨old, he⟩ := st.1; ⟨old, k e (by simp) _ he⟩, st.2.1.at fun o q => k it (by simp) o q, st.2.2⟩
  item := by
    intro X hP hw hK hc i pins s σ H E I hf st hg
    subst hP hw hK
    obtain ⟨⟨old, he⟩, hit, n1, n2, n3⟩ := st
    obtain ⟨xs, x, hq, hx⟩ := hg
    obtain ⟨its, rv, p, hz⟩ := I.tuple hq
    have W := WalksT.enumerateD (Draws.tuple (prog := X.prog) (w := X.w) (A := X.A.in1) (I.ok.hd hc) it a n2 its.toArray) e n1 (by simp [n1, n3.symm]) (by simp)
    have hi : i < its.toArray.size := by
      have h1 := (List.getElem?_eq_some_iff.mp hx).1
      rw [rv.length] at h1
      simpa using h1
    refine W.item i s _ _ hi ⟨⟨old, he⟩, hit, p⟩ fun T vals h' tk hP hT htup mid hk => ⟨_, rfl, W.go elts kk tpos i T { s with heap := h', toks := tk } _ _ mid fun h'' st' hk' => ?_⟩
    obtain ⟨t, u, hu, rfl⟩ := hP
    have hTw := W.apart i T h' mid
    have htup2 : h''.IsTuple T #[.int i t, u] := by
      obtain ⟨o, ho, r⟩ := htup
      exact ⟨o, hk' T o hTw ho, r⟩
    obtain ⟨u', hu', ru⟩ := rv.get hx
    have eu : u' = u := by
      have z1 : its[i]? = some u := by simpa using hu
      rw [z1] at hu'
      exact (Option.some.inj hu').symm
    subst eu
    have new : ObjOk X.prog X.w (upd H T (.tup [.int (i : Nat), x])) h'' T (.tup [.int (i : Nat), x]) := ⟨by show 2 ≤ sizeLine; decide, [.int i t, u'], .cons ⟨_, rfl⟩ (.cons ru .nil), htup2⟩
    have J : Inv X pins σ (upd H T (.tup [.int (i : Nat), x])) { s with heap := h'', toks := tk } := I.turnedNew (ch := [e, it]) (fun b ob hb q => hk' b ob hb (hk b ob hb q)) hf hT new
    obtain ⟨⟨old', he'⟩, hit', _⟩ := st'
    refine ⟨.ref T, _, J, rfl, ⟨_, x, rfl, I.hok.fresh hT, rfl, fun ys hy => by rw [I.tuple_inj hy hq]; exact hx⟩, ⟨⟨old', he'⟩, hit', n1, n2, n3⟩, fun b hb => ?_⟩
    have hlt : b < s.heap.objs.size := by
      rcases (show b = e ∨ b = it by simpa using hb) with z | z
      · rw [z]; exact Heap.lt_size he
      · rw [z]; obtain ⟨_, q, _⟩ := hit; exact Heap.lt_size q
    rw [upd_ne (Nat.ne_of_lt (Nat.lt_of_lt_of_le hlt hT))]
    exact (hf b hb).1
  done := by
    intro X hP hw hK hc i pins s σ H E I hf st hg
    subst hP hw hK
    obtain ⟨⟨old, he⟩, hit, n1, n2, n3⟩ := st
    obtain ⟨xs, hq, hx⟩ := hg
    obtain ⟨its, rv, p, hz⟩ := I.tuple hq
    obtain ⟨f0, f1, f2, f3, f4, f5⟩ := hf it (by simp)
    by_cases ei : i = its.toArray.size
    · subst ei
      have D := Draws.tuple (prog := X.prog) (w := X.w) (A := X.A.in1) (I.ok.hd hc) it a n2 its.toArray
      exact wpAny_pyNext_enum_endD D he ⟨hit, p⟩ fun h' eb => ⟨rfl, I.turned (t' := s.toks) (fun b o hb q => eb b o hb q) f0 f1 f3 f4 f5⟩
    · have D : Draws X.prog X.w X.A.in1 it [it, a] i (fun j v => False) (fun j h => h.IsTupleIter it a j ∧ h.IsTuple a its.toArray ∧ (j < i → False) ∧ its.toArray.size ≤ j) := by
        refine ⟨fun _ _ st => let ⟨o, ho, _⟩ := st.1; ⟨o, ho⟩, fun _ _ _ st hk => ⟨st.1.at fun o e => hk it (by simp) o e, st.2.1.at fun o e => hk a (by simp) o e, st.2.2⟩, fun j s Q E hj st _ => (st.2.2.1 hj).elim, fun s Q E st hE => ?_⟩
        exact wpAny_nextOf_tuple_end (I.ok.hd hc) st.1 st.2.1 (by simpa using st.2.2.2) hE
      refine wpAny_pyNext_enum_endD D he ⟨hit, p, fun z => absurd z (Nat.lt_irrefl _), ?_⟩ fun h' eb => ⟨rfl, I.turned (t' := s.toks) (fun b o hb q => eb b o hb q) f0 f1 f3 f4 f5⟩
      rw [rv.length] at hx
      simpa using hx
  self := fun A i s Q E st h => let ⟨⟨_, he⟩, _⟩ := st; wpAny_pyIter_enum he h
def iEnT (K : PySem.W.Frag) (te : TE) : TI := fun σ H R => te σ H fun v H1 => ∃ a xs, [v] = [V.ref a] ∧ SqT K H1 a xs ∧ R (ItT K a) H1
theorem pi_enT {X : Cx} {e : Expr} {te : TE} {p pos tpos : Pos} {elts : List Expr} {kk : Nat} (hg : Gl X "enumerate") (hm : X.mg "enumerate" = none) (he : PE X e te) (hp : plainE e = true) :
    PI X (.Tuple elts kk tpos) (.Call (.Name "enumerate" p) [e] [] pos) (iEnT X.K te) := by
  refine ⟨fun pins s σ H R I h => ?_⟩
  have ha := pa_cons he pa_nil (star_of hp)
  refine PyProof.Rows.Call_ (ld_blt I hg hm PyProof.Rows.boot_enumerate (PyProof.Rows.callWith_type1 (thn (ha.run pos pins s σ H (fun vs H1 => ∃ a xs, vs = [V.ref a] ∧ SqT X.K H1 a xs ∧ R (ItT X.K a) H1) I h) fun us s1 ⟨vs, H1, I1, r1, q1⟩ => ?_) (star1 hp) rfl))
  obtain ⟨a, xs, ex, hq, q⟩ := q1
  subst ex
  cases r1 with
  | cons r rr =>
    cases rr
    cases r
    obtain ⟨its, rv, tt, hz⟩ := I1.tuple hq
    refine call_enumT (vs := its.toArray) tt fun g he hit hsz hk => wpAny_pyIter_enum he ?_
    have hlt : a < s1.heap.objs.size := by obtain ⟨o, ho, _⟩ := tt; exact Heap.lt_size ho
    refine ⟨s1.heap.objs.size + 1, [s1.heap.objs.size + 1, s1.heap.objs.size], _, _, H1, rfl, I1.kept (t' := s1.toks) hk, turn_enT a (s1.heap.objs.size + 1) s1.heap.objs.size, ⟨⟨.none, he⟩, hit, Nat.succ_ne_self _, Nat.ne_of_lt hlt, Nat.ne_of_lt (Nat.lt_succ_of_lt hlt)⟩, fun b hb => ?_, q⟩
    have hle : s1.heap.objs.size ≤ b := by
      rcases (show b = s1.heap.objs.size + 1 ∨ b = s1.heap.objs.size by simpa using hb) with z | z
      · rw [z]; exact Nat.le_add_right _ _
      · rw [z]; exact Nat.le_refl _
    exact I1.fpOk hle (I1.hok.fresh hle)
section
variable {K : PySem.W.Frag} {O : Addr → Prop} {H : Hp} {kp : Addr → Prop} {ds : List D} {a : Addr} {xs : List V}
theorem enm_get {ds : List D} {i : Nat} {d : D} (e : (ds.mapIdx fun i x => PyData.tuple [.int i, x])[i]? = some d) : ∃ x, ds[i]? = some x ∧ d = .tuple [.int i, x] := by
  rw [List.getElem?_mapIdx] at e
  obtain ⟨x, h1, h2⟩ := Option.map_eq_some_iff.mp e
  exact ⟨x, h1, h2.symm⟩
theorem wlk_enT (h : ∀ O1 H1, Mono O H O1 H1 → Kpt kp H H1 → SqT K H1 a xs) (r : RpL K O H xs ds) : Wlk K (ItT K a) O H kp (ds.mapIdx fun i x => .tuple [.int i, x]) where
  goes := fun i O1 H1 m k hi => ⟨xs, xs[i]'(by rw [r.length]; simpa using hi), h O1 H1 m k, by simp⟩
  stops := fun O1 H1 m k => ⟨xs, h O1 H1 m k, by rw [r.length]; simp⟩
  ylds := fun i O1 H1 x H2 d m k e y => by
    obtain ⟨T, z, rfl, hT, rfl, y⟩ := y
    obtain ⟨dx, e1, rfl⟩ := enm_get e
    obtain ⟨v, ev, rv⟩ := r.get e1
    have q := y xs (h O1 H1 m k)
    rw [ev] at q; cases q
    exact .inr ⟨T, _, _, rfl, hT, rfl, rfl, .cons (.int _) (.cons (rv.mono m) .nil)⟩
theorem wlk_enL (h : ∀ O1 H1, Mono O H O1 H1 → Kpt kp H H1 → SqL K H1 a xs) (r : RpL K O H xs ds) : Wlk K (Ite K a) O H kp (ds.mapIdx fun i x => .tuple [.int i, x]) where
  goes := fun i O1 H1 m k hi => ⟨xs, xs[i]'(by rw [r.length]; simpa using hi), h O1 H1 m k, by simp⟩
  stops := fun O1 H1 m k => ⟨xs, h O1 H1 m k, by rw [r.length]; simp⟩
  ylds := fun i O1 H1 x H2 d m k e y => by
    obtain ⟨T, z, rfl, hT, rfl, y⟩ := y
    obtain ⟨dx, e1, rfl⟩ := enm_get e
    obtain ⟨v, ev, rv⟩ := r.get e1
    have q := y xs (h O1 H1 m k)
    rw [ev] at q; cases q
    exact .inr ⟨T, _, _, rfl, hT, rfl, rfl, .cons (.int _) (.cons (rv.mono m) .nil)⟩
end
section
variable {X : Cx} {R : Rt} {W : WX} {e : Expr} {c : CE} {p pos tpos : Pos} {elts : List Expr} {kk : Nat}
theorem mi_enm (hK : X.K = R.K) (hg : Gl X "enumerate") (hm : X.mg "enumerate" = none) (he : PE X e (tO R W c)) (hp : plainE e = true) : PI X (.Tuple elts kk tpos) (.Call (.Name "enumerate" p) [e] [] pos) (tI R W (.enm c)) := by
  refine ⟨fun pins s σ H Q I ⟨O, ρ, S, A⟩ => ?_⟩
  have L := pi_enum (p := p) (pos := pos) (tpos := tpos) (elts := elts) (kk := kk) hg hm (pa_cons he pa_nil (star_of hp)) (star1 hp)
  have T := pi_enT (p := p) (pos := pos) (tpos := tpos) (elts := elts) (kk := kk) hg hm he hp
  rw [hK] at L T
  rw [evI] at A
  unfold walkE at A
  cases e1 : opd c (evE R.cf c) ρ with
  | bad => rw [e1] at A; exact A.elim
  | exc x ρ' =>
    rw [e1] at A
    exact L.run pins s σ H Q I ⟨O, ρ, S, by rw [e1]; exact A⟩
  | ok o ρ1 =>
    rw [e1] at A
    simp only [Out.bind] at A
    cases o with
    | wr ds => exact A.elim
    | val d =>
      have A : Ans R W σ O H ρ (if noStr d = true then lift ((itemsW d).map fun xs => ((xs.mapIdx fun i x => PyData.tuple [.int i, x], none) : List D × Option Nat)) ρ1 else .bad) (fun xl ρ' O' H' => ∀ J, Wlk R.K J O' H' (kpOf ρ' σ xl.2) xl.1 → Q J H') := A
      by_cases ns : noStr d = true
      · rw [if_pos ns] at A
        obtain ⟨xl, ex, A⟩ := A.lift
        obtain ⟨xs, ew, rfl⟩ := Option.map_eq_some_iff.mp ex
        cases d with
        | none => cases ew
        | bool _ => cases ew
        | int _ => cases ew
        | str _ => cases ns
        | list ds =>
          cases ew
          refine L.run pins s σ H Q I ⟨O, ρ, S, ?_⟩
          rw [e1]
          intro O1 H1 S1 T1 v hv
          obtain ⟨a, zs, rfl, ha, ra⟩ := (show Rp R.K O1 H1 v (.list _) from hv).rq.list
          have nO : ¬ O1 a := by
            cases hv with
            | box n _ _ => exact n
          exact ⟨a, zs, rfl, .of ha, A O1 H1 S1 T1 _ (wlk_enL (fun O2 H2 m _ => .of (m.box a _ nO rfl (.inl ha)).1.lst) ra)⟩
        | tuple ds =>
          cases ew
          refine T.run pins s σ H Q I ⟨O, ρ, S, ?_⟩
          rw [e1]
          intro O1 H1 S1 T1 v hv
          obtain ⟨a, zs, rfl, ha, ra⟩ := (show Rp R.K O1 H1 v (.tuple _) from hv).rq.tup
          exact ⟨a, zs, rfl, .of ha, A O1 H1 S1 T1 _ (wlk_enT (fun O2 H2 m _ => .of (m.tup a _ ha)) ra)⟩
        | dict kvs =>
          obtain rfl := itemsW_dict ew
          refine L.run pins s σ H Q I ⟨O, ρ, S, ?_⟩
          rw [e1]
          intro O1 H1 S1 T1 v hv
          obtain ⟨a, zs, rfl, ha, ra⟩ := (show Rp R.K O1 H1 v (.dict _) from hv).rq.scr
          exact ⟨a, zs, rfl, ha.sq, A O1 H1 S1 T1 _ (wlk_enL (fun O2 H2 m _ => SqF.sq (ha.imp (fun ⟨o, e⟩ => ⟨o, m.frz a o _ e⟩) id)) ra)⟩
      · rw [if_neg ns] at A
        exact A.elim
    | «at» i =>
      simp only at A
      split at A
      · rename_i xs hs
        refine L.run pins s σ H Q I ⟨O, ρ, S, ?_⟩
        rw [e1]
        intro O1 H1 S1 T1 v hv
        obtain ⟨a, u, ea, oa, hu, ct⟩ := S1.sl i _ hs
        have hv : σ[i]? = some (some v) := hv
        rw [ea] at hv; cases hv
        cases ct with
        | @lst zs _ ra =>
          exact ⟨a, zs, rfl, .of hu, A O1 H1 S1 T1 _ (wlk_enL (fun O2 H2 m k => .of (k a _ ⟨i, rfl, ⟨_, hs⟩, ea⟩ hu)) ra)⟩
      · exact A.elim
end
end Mi
end
section
namespace Mi
open PySem PySem.Spec L2
structure Ctx where
  N : List Str
  sc : Scope
  fnc : Str → Bool
  funs : List (Str × Nat)
  cons : List (Str × D)
  wrs : List (Str × List D)
def bltL : List Str := ["len", "all", "any", "sum", "max", "min", "sorted", "tuple", "list", "dict", "int", "isinstance", "range", "enumerate", "zip", "set", "str", "bool", "reversed"]
def CallOk (X : Cx) (R : Rt) (f : Str) (n : Nat) : Prop := ∃ k a fd ps, FnOk X.prog X.w X.K X.mg X.base (L2.CX X.prog X.w) k a fd ps (spI R f) ∧ Room k X.A ∧ X.mg f = some (.ref a) ∧ PySem.W.keepIn X.K (.ref a) = true ∧ Binds X.K fd ps [] ∧ ps.length = n
structure Good (X : Cx) (R : Rt) (W : WX) (c : Ctx) : Prop where
  hK : X.K = R.K
  calm : X.calm = true
  hu : X.A.units + 200 < cLine
  hN : X.N = c.N
  nd : c.N.Nodup
  sc : X.env.scope = c.sc
  fn : X.fn = c.fnc
  tk : Takes X W
  fns : ∀ f n, c.funs.lookup f = some n → CallOk X R f n
  cons : ∀ x d, c.cons.lookup x = some d → ∃ v u, X.mg x = some u ∧ RelV v u ∧ ∀ O H, Rp R.K O H v d
  wrs : ∀ x ds, c.wrs.lookup x = some ds → ∃ a xs, X.mg x = some (.ref a) ∧ (∀ H, SqT R.K H a xs) ∧ ∀ O H, RpL R.K O H xs ds
  blt : ∀ x ∈ bltL, X.mg x = none
def Ctx.blk (c : Ctx) (scope : Scope) : Ctx := { c with sc := relS scope c.sc, fnc := fun x => scope.names.lookup x == some .cell }
theorem Good.blk {X : Cx} {R : Rt} {W : WX} {c : Ctx} {scope : Scope} (g : Good X R W c) : AllBlk X scope fun Y => Good Y R W0 (c.blk scope) := fun s H C cl fp => by
  refine ⟨g.hK, g.calm, g.hu, g.hN, g.nd, ?_, rfl, fun u s' ⟨_, _, _, _, _, _, _, _, _, _, _, _, _, _, _, _, z⟩ => z.elim, g.fns, g.cons, g.wrs, g.blt⟩
  show relS scope X.env.scope = relS scope c.sc
  rw [g.sc]
structure SE (X : Cx) (R : Rt) (W : WX) (e : Expr) (ce : CE) : Prop where
  me : ME X R W e ce
  mo : PE X e (tO R W ce)
  a1 : ∀ m, PE X e (tA1 R W m ce)
  var : ∀ i, ce = .var i → PE X e (tVar i)
def EOk (c : Ctx) (e : Expr) (ce : CE) : Prop := ∀ X R W, Good X R W c → SE X R W e ce
def IOk (c : Ctx) (tg e : Expr) (ce : CE) : Prop := ∀ X R W, Good X R W c → PI X tg e (tI R W ce)
theorem SE.of {X : Cx} {R : Rt} {W : WX} {e : Expr} {ce : CE} (h : ME X R W e ce) (hv : isVar ce = false) : SE X R W e ce :=
  ⟨h, mo_of hv h.pe, fun m => by
    cases m with
    | false => exact ma1_shr h.pe
    | true => exact ma1_new hv h.pe, fun i e => by subst e; cases hv⟩
theorem SE.of' {X : Cx} {R : Rt} {W : WX} {e : Expr} {ce : CE} (h : PE X e (tE R W ce)) (hv : isVar ce = false) (he : ∀ whole, isTrue e X.env whole = (do let v ← whole; standAt e.pos; holding [v] (truthy v))) : SE X R W e ce := SE.of (ME.of' h he) hv
theorem SE.va {X : Cx} {R : Rt} {W : WX} {e : Expr} {i : Nat} (h : PE X e (tVar i)) (he : ∀ whole, isTrue e X.env whole = (do let v ← whole; standAt e.pos; holding [v] (truthy v))) : SE X R W e (.var i) :=
  ⟨ME.of' (me_var h) he, mo_var h, fun m => by
    cases m with
    | false => exact ma1_shr (me_var h)
    | true => exact ma1_var h, fun j e => by cases e; exact h⟩
abbrev Cmp := Ctx → Expr → Option CE
def Snd (f : Cmp) : Prop := ∀ c e ce, f c e = some ce → EOk c e ce
def compL (f : Expr → Option CE) : List Expr → Option (List CE)
  | [] => some []
  | e :: es => if plainE e = true then (f e).bind fun x => (compL f es).map (x :: ·) else none
theorem ma_of {f : Cmp} (sf : Snd f) {c : Ctx} {X : Cx} {R : Rt} {W : WX} (g : Good X R W c) : ∀ {es : List Expr} {cs : List CE}, compL (f c) es = some cs → PA X es (tL R W cs)
  | [], cs, h => by cases h; exact ma_nil
  | e :: es, cs, h => by
    unfold compL at h
    split at h
    · rename_i hp
      obtain ⟨x, hx, h⟩ := Option.bind_eq_some_iff.mp h
      obtain ⟨xs, hxs, rfl⟩ := Option.map_eq_some_iff.mp h
      exact ma_cons (sf c e x hx X R W g).me.pe (ma_of sf g hxs) (star_of hp)
    · cases h
theorem maa_of {f : Cmp} (sf : Snd f) {c : Ctx} {X : Cx} {R : Rt} {W : WX} (g : Good X R W c) {mu : List Nat} : ∀ {es : List Expr} {cs : List CE} {j : Nat}, compL (f c) es = some cs → PA X es (tA R W mu j cs)
  | [], cs, j, h => by cases h; exact maa_nil
  | e :: es, cs, j, h => by
    unfold compL at h
    split at h
    · rename_i hp
      obtain ⟨x, hx, h⟩ := Option.bind_eq_some_iff.mp h
      obtain ⟨xs, hxs, rfl⟩ := Option.map_eq_some_iff.mp h
      exact maa_cons ((sf c e x hx X R W g).a1 _) (maa_of sf g hxs) hp
    · cases h
theorem plain_all {env : PySem.Env} {pos : Pos} {f : Expr → Option CE} : ∀ {es : List Expr} {cs : List CE}, compL f es = some cs → (backTo pos (starEach es env)).any (·.1) = false
  | [], cs, h => rfl
  | e :: es, cs, h => by
    unfold compL at h
    split at h
    · rename_i hp
      obtain ⟨x, hx, h⟩ := Option.bind_eq_some_iff.mp h
      obtain ⟨xs, hxs, rfl⟩ := Option.map_eq_some_iff.mp h
      rw [star_of hp]
      show (false || (backTo pos (starEach es env)).any (·.1)) = false
      rw [plain_all hxs]
      rfl
    · cases h
def ixOf (N : List Str) (x : Str) : Option Nat := N.idxOf? x
theorem ixOf_of {N : List Str} {x : Str} {i : Nat} (h : ixOf N x = some i) : N[i]? = some x := by
  unfold ixOf at h
  rw [List.idxOf?_eq_some_iff] at h
  obtain ⟨hi, e, _⟩ := h
  rw [List.getElem?_eq_getElem hi, e]
def visB (k : Option NameKind) : Bool := match k with
  | some .local => true
  | some .cell => true
  | some .free => true
  | _ => false
def glB (k : Option NameKind) : Bool := match k with
  | some .globalImplicit => true
  | _ => false
def dbg : List Str := ["__debug__", "__classdict__", "__name__"]
def compName (c : Ctx) (x : Str) : Option CE :=
  if dbg.contains x = true then none else
  if visB (c.sc.names.lookup x) = true then (ixOf c.N x).map .var else
  if glB (c.sc.names.lookup x) = true then match c.cons.lookup x with
    | some d => some (.cst d)
    | none => (c.wrs.lookup x).map .wr
  else none
theorem gl_of {X : Cx} {R : Rt} {W : WX} {c : Ctx} {x : Str} (g : Good X R W c) (h : glB (c.sc.names.lookup x) = true) : Gl X x := by
  show X.env.scope.names.lookup x = _
  rw [g.sc]
  unfold glB at h
  split at h
  · assumption
  · cases h
theorem vis_of {X : Cx} {R : Rt} {W : WX} {c : Ctx} {x : Str} (g : Good X R W c) (h : visB (c.sc.names.lookup x) = true) : Vis X.env.scope x := by
  unfold Vis
  rw [g.sc]
  unfold visB at h
  split at h
  · exact .inl (by assumption)
  · exact .inr (.inl (by assumption))
  · exact .inr (.inr (by assumption))
  · cases h
theorem dbg_of {x : Str} (h : ¬ dbg.contains x = true) : (x == ("__debug__" : Str)) = false ∧ (x == ("__classdict__" : Str)) = false ∧ x ≠ "__name__" := by
  unfold dbg at h
  simp only [List.contains_cons, List.contains_nil, Bool.or_false, Bool.or_eq_true, not_or] at h
  refine ⟨by simpa using h.1, by simpa using h.2.1, by simpa using h.2.2⟩
theorem name_ok {c : Ctx} {x : Str} {pos : Pos} {ce : CE} (h : compName c x = some ce) : EOk c (.Name x pos) ce := by
  intro X R W g
  unfold compName at h
  split at h
  · cases h
  · rename_i hd
    obtain ⟨d1, d2, d3⟩ := dbg_of hd
    split at h
    · rename_i hv
      obtain ⟨i, hi, rfl⟩ := Option.map_eq_some_iff.mp h
      exact SE.va (pe_var (by rw [g.hN]; exact ixOf_of hi) (vis_of g hv) d1 d2) (by intro _; rfl)
    · split at h
      · rename_i hg
        split at h
        · rename_i d hd
          cases h
          obtain ⟨v, u, m1, m2, m3⟩ := g.cons x d hd
          exact SE.of' (pe_wk (pe_glob (gl_of g hg) m1 m2 d1) fun σ H Q q => tE_cst q fun O => m3 O H) rfl (by intro _; rfl)
        · obtain ⟨ds, hd, rfl⟩ := Option.map_eq_some_iff.mp h
          obtain ⟨a, xs, m1, m2, m3⟩ := g.wrs x ds hd
          have p := pe_glob (X := X) (pos := pos) (gl_of g hg) m1 (v := .ref a) rfl d1
          refine ⟨ME.of (c := .wr ds) p (fun σ H Q ⟨O, ρ, S, A⟩ => ?_) (by intro _; rfl), pe_wk p fun σ H Q ⟨O, ρ, S, A⟩ => ?_, fun m => pe_wk p fun σ H Q ⟨O, ρ, S, A⟩ => ?_, fun i e => nomatch e⟩
          · rw [evE] at A
            · exact A.elim
            all_goals (intros; contradiction)
          · exact A O H S Step.refl _ ⟨a, xs, rfl, m2, m3⟩
          · unfold arg1 at A
            have e : evE R.cf (.wr ds) ρ = .bad := by
              rw [evE]
              all_goals (intros; contradiction)
            cases m with
            | false => simp only [e] at A; exact A.elim
            | true => simp only [e] at A; exact A.elim
      · cases h
end Mi
end
section
namespace Mi
open PySem PySem.Spec L2
def compC : Const → Option CE
  | .none => some (.cst .none)
  | .bool b => some (.cst (.bool b))
  | .int i => some (.cst (.int i))
  | .str s => some (.cst (.str s))
  | _ => none
theorem const_ok {c : Ctx} {v : Const} {k : Nat} {pos : Pos} {ce : CE} (h : compC v = some ce) : EOk c (.Constant v k pos) ce := by
  intro X R W g
  cases v <;> cases h
  · exact SE.of' me_non rfl (by intro _; rfl)
  · exact SE.of' me_bl rfl (by intro _; rfl)
  · exact SE.of' me_int rfl (by intro _; rfl)
  · exact SE.of' me_str rfl (by intro _; rfl)
def isNone : Expr → Bool
  | .Constant .none _ _ => true
  | _ => false
def notSet : Expr → Bool
  | .Set _ _ _ => false
  | _ => true
theorem marks_of {op : CmpOp} {b : Expr} (h : notSet b = true) : behindInMarks op b = false := by
  cases b <;> first | rfl | cases h
def cmpK : CmpOp → Bool
  | .Eq | .NotEq | .Lt | .Gt | .LtE | .GtE => true
  | _ => false
theorem opR_of {X : Cx} (hu : X.A.units + 200 < cLine) : ∀ {op : CmpOp}, cmpK op = true → OpR X (compareOp op) (rCmp X.K (cmpOp op))
  | .Eq, _ => op_eqM hu
  | .NotEq, _ => op_neM hu
  | .Lt, _ => op_ltM hu
  | .Gt, _ => op_gtM
  | .LtE, _ => op_leM
  | .GtE, _ => op_geM
def comp2 (f : Expr → Option CE) (a b : Expr) (k : CE → CE → CE) : Option CE := (f a).bind fun x => (f b).map fun y => k x y
theorem comp2_of {f : Expr → Option CE} {a b : Expr} {k : CE → CE → CE} {ce : CE} (h : comp2 f a b k = some ce) : ∃ x y, f a = some x ∧ f b = some y ∧ ce = k x y := by
  obtain ⟨x, hx, h⟩ := Option.bind_eq_some_iff.mp h
  obtain ⟨y, hy, rfl⟩ := Option.map_eq_some_iff.mp h
  exact ⟨x, y, hx, hy, rfl⟩
def compCmp1 (f : Expr → Option CE) (a b : Expr) : CmpOp → Option CE
  | .In => if notSet b = true then comp2 f a b (.isin false) else none
  | .NotIn => if notSet b = true then comp2 f a b (.isin true) else none
  | .Is => if isNone b = true then (f a).map (.isn false) else none
  | .IsNot => if isNone b = true then (f a).map (.isn true) else none
  | op => if notSet b = true then comp2 f a b (.cmp op) else none
def compCmp (f : Expr → Option CE) (a : Expr) : List CmpOp → List Expr → Option CE
  | [op], [b] => compCmp1 f a b op
  | [op, op'], [b, d] => if cmpK op = true ∧ cmpK op' = true ∧ notSet d = true then (f a).bind fun x => (f b).bind fun y => (f d).map fun z => .chn op op' x y z else none
  | _, _ => none
section
variable {f : Cmp} {c : Ctx} {a b d : Expr} {ce : CE} {pos : Pos}
theorem isNone_of (h : isNone b = true) : ∃ k p, b = .Constant .none k p := by
  cases b with
  | Constant v k p => cases v <;> first | exact ⟨k, p, rfl⟩ | cases h
  | _ => cases h
theorem cmp1_ok (sf : Snd f) {op : CmpOp} (h : compCmp1 (f c) a b op = some ce) : EOk c (.Compare a [op] [b] pos) ce := by
  intro X R W g
  have K : ∀ {op : CmpOp}, cmpK op = true → (if notSet b = true then comp2 (f c) a b (.cmp op) else none) = some ce → SE X R W (.Compare a [op] [b] pos) ce := fun {op} ho h => by
    split at h
    · rename_i hs
      obtain ⟨x, y, hx, hy, rfl⟩ := comp2_of h
      exact SE.of (me_cmp g.hK (opR_of g.hu ho) (marks_of hs) (sf c a x hx X R W g).mo (sf c b y hy X R W g).mo) rfl
    · cases h
  unfold compCmp1 at h
  cases op with
  | In =>
    simp only at h
    split at h
    · rename_i hs
      obtain ⟨x, y, hx, hy, rfl⟩ := comp2_of h
      exact SE.of (me_in g.hK g.hu (marks_of hs) (sf c a x hx X R W g).me.pe (sf c b y hy X R W g).mo) rfl
    · cases h
  | NotIn =>
    simp only at h
    split at h
    · rename_i hs
      obtain ⟨x, y, hx, hy, rfl⟩ := comp2_of h
      exact SE.of (me_notin g.hK g.hu (marks_of hs) (sf c a x hx X R W g).me.pe (sf c b y hy X R W g).mo) rfl
    · cases h
  | Is =>
    simp only at h
    split at h
    · rename_i hs
      obtain ⟨k, p, rfl⟩ := isNone_of hs
      obtain ⟨x, hx, rfl⟩ := Option.map_eq_some_iff.mp h
      exact SE.of (me_is (sf c a x hx X R W g).mo) rfl
    · cases h
  | IsNot =>
    simp only at h
    split at h
    · rename_i hs
      obtain ⟨k, p, rfl⟩ := isNone_of hs
      obtain ⟨x, hx, rfl⟩ := Option.map_eq_some_iff.mp h
      exact SE.of (me_isnot (sf c a x hx X R W g).mo) rfl
    · cases h
  | Eq => exact K rfl h
  | NotEq => exact K rfl h
  | Lt => exact K rfl h
  | Gt => exact K rfl h
  | LtE => exact K rfl h
  | GtE => exact K rfl h
theorem cmp_ok (sf : Snd f) {ops : List CmpOp} {bs : List Expr} (h : compCmp (f c) a ops bs = some ce) : EOk c (.Compare a ops bs pos) ce := by
  unfold compCmp at h
  split at h
  · exact cmp1_ok sf h
  · split at h
    · rename_i ok
      obtain ⟨h1, h2, h3⟩ := ok
      obtain ⟨x, hx, h⟩ := Option.bind_eq_some_iff.mp h
      obtain ⟨y, hy, h⟩ := Option.bind_eq_some_iff.mp h
      obtain ⟨z, hz, rfl⟩ := Option.map_eq_some_iff.mp h
      intro X R W g
      exact SE.of (me_chn g.hK (opR_of g.hu h1) (opR_of g.hu h2) (by unfold lastMarks; exact marks_of h3) (sf c _ x hx X R W g).me.pe (sf c _ y hy X R W g).me.pe (sf c _ z hz X R W g).me.pe) rfl
    · cases h
  · cases h
end
def compB (f : Expr → Option CE) (op : BoolOp) : List Expr → Option CE
  | [] => none
  | [e] => f e
  | e :: e2 :: es => (f e).bind fun x => (compB f op (e2 :: es)).map fun y => match op with
    | .And => .and x y
    | .Or => .or x y
theorem mw_of {f : Cmp} (sf : Snd f) {c : Ctx} {op : BoolOp} {X : Cx} {R : Rt} {W : WX} (g : Good X R W c) {pos : Pos} : ∀ {es : List Expr} {ce : CE}, compB (f c) op es = some ce → MW X R W (.BoolOp op es pos) ce
  | [], ce, h => by cases h
  | [e], ce, h => by
    cases op with
    | And => exact mw_and1 (sf c e ce h X R W g).me
    | Or => exact mw_or1 (sf c e ce h X R W g).me
  | e :: e2 :: es, ce, h => by
    unfold compB at h
    obtain ⟨x, hx, h⟩ := Option.bind_eq_some_iff.mp h
    obtain ⟨y, hy, rfl⟩ := Option.map_eq_some_iff.mp h
    cases op with
    | And => exact mw_and (sf c e x hx X R W g).me (mw_of sf g hy)
    | Or => exact mw_or (sf c e x hx X R W g).me (mw_of sf g hy)
def compBo (f : Expr → Option CE) (op : BoolOp) : List Expr → Option CE
  | e :: e2 :: es => compB f op (e :: e2 :: es)
  | _ => none
theorem bool_ok {f : Cmp} (sf : Snd f) {c : Ctx} {op : BoolOp} {es : List Expr} {ce : CE} {pos : Pos} (h : compBo (f c) op es = some ce) : EOk c (.BoolOp op es pos) ce := by
  intro X R W g
  unfold compBo at h
  split at h
  · have hw := mw_of sf (pos := pos) g h
    refine SE.of hw.me ?_
    unfold compB at h
    obtain ⟨x, hx, h⟩ := Option.bind_eq_some_iff.mp h
    obtain ⟨y, hy, rfl⟩ := Option.map_eq_some_iff.mp h
    cases op <;> rfl
  · cases h
section
variable {X : Cx}
theorem pt_ite {t a b : Expr} {tc ta tb : TT} {pos : Pos} (hc : PT X t tc) (ha : PT X a ta) (hb : PT X b tb) : PT X (.IfExp t a b pos) (fun σ H Q => tc σ H fun c H1 => if c = true then ta σ H1 Q else tb σ H1 Q) := by
  refine ⟨fun pins s σ H Q I h => ?_⟩
  have e : ∀ w, isTrue (.IfExp t a b pos) X.env w = (do if ← isTrue t X.env (eval t X.env) then isTrue a X.env (eval a X.env) else isTrue b X.env (eval b X.env)) := fun w => rfl
  rw [e]
  refine wpAny_bind (thn (hc.run pins s σ H _ I h) fun d s1 ⟨H1, I1, q1⟩ => ?_)
  cases d with
  | true => exact ha.run pins s1 σ H1 Q I1 q1
  | false => exact hb.run pins s1 σ H1 Q I1 q1
theorem me_iteT {R : Rt} {W : WX} {t a b : Expr} {c ca cb : CE} {pos : Pos} (hc : PT X t (tT R W c)) (ha : ME X R W a ca) (hb : ME X R W b cb) : ME X R W (.IfExp t a b pos) (.ite c ca cb) := by
  refine ⟨me_ite hc ha.pe hb.pe, pt_wk (pt_ite hc ha.pt hb.pt) fun σ H Q ⟨O, ρ, S, A⟩ => ?_⟩
  rw [evE] at A
  refine tT_bl S A fun t ρ1 O1 H1 S1 T1 A1 => ?_
  cases t with
  | true =>
    rw [if_pos rfl] at A1 ⊢
    exact ⟨O1, ρ1, S1, A1⟩
  | false =>
    rw [if_neg (by decide)] at A1 ⊢
    exact ⟨O1, ρ1, S1, A1⟩
end
def isM1 : Expr → Bool
  | .UnaryOp .USub (.Constant (.int 1) _ _) _ => true
  | _ => false
def compSl (f : Expr → Option CE) (a : CE) : Option Expr → Option Expr → Option Expr → Option CE
  | none, none, none => some (.sl0 a)
  | some b, none, none => (f b).map (.sl1 a)
  | none, some b, none => (f b).map (.sl2 a)
  | some b, some d, none => comp2 f b d (.sl3 a)
  | _, _, _ => none
def compSub (f : Expr → Option CE) (a b : Expr) : Option CE := (f a).bind fun x => match b with
  | .Slice lo hi st _ => compSl f x lo hi st
  | .Set _ _ _ => none
  | b => (f b).map (.idx x)
section
variable {f : Cmp} {c : Ctx} {a b : Expr} {ce : CE} {pos : Pos}
theorem plainIx_of (h : noSlice b = true) : PlainIx b := by
  intro o i
  cases b <;> first | rfl | cases h
theorem sub_ok (sf : Snd f) (h : compSub (f c) a b = some ce) : EOk c (.Subscript a b pos) ce := by
  intro X R W g
  obtain ⟨x, hx, h⟩ := Option.bind_eq_some_iff.mp h
  have sa := (sf c a x hx X R W g).mo
  have K : noSlice b = true → (f c b).map (.idx x) = some ce → SE X R W (.Subscript a b pos) ce := fun hn h => by
    obtain ⟨y, hy, rfl⟩ := Option.map_eq_some_iff.mp h
    exact SE.of (me_idx g.hK g.hu (plainIx_of hn) sa (sf c b y hy X R W g).me.pe) rfl
  cases b with
  | Slice lo hi st p =>
    have h : compSl (f c) x lo hi st = some ce := h
    unfold compSl at h
    split at h
    · cases h; exact SE.of (me_sl0 g.hK sa) rfl
    · obtain ⟨y, hy, rfl⟩ := Option.map_eq_some_iff.mp h
      exact SE.of (me_sl1 g.hK sa (sf c _ y hy X R W g).me.pe) rfl
    · obtain ⟨y, hy, rfl⟩ := Option.map_eq_some_iff.mp h
      exact SE.of (me_sl2 g.hK sa (sf c _ y hy X R W g).me.pe) rfl
    · obtain ⟨y, z, hy, hz, rfl⟩ := comp2_of h
      exact SE.of (me_sl3 g.hK sa (sf c _ y hy X R W g).me.pe (sf c _ z hz X R W g).me.pe) rfl
    · cases h
  | Set _ _ _ => cases h
  | _ => exact K rfl h
end
def stgA (f : Cmp) : Cmp := fun c e => match e with
  | .Constant v _ _ => compC v
  | .Name x _ => compName c x
  | .Tuple es _ _ => (compL (f c) es).map .tup
  | .List es _ => (compL (f c) es).map .lst
  | .BinOp a op b _ => comp2 (f c) a b (.bin op)
  | .UnaryOp .USub a _ => (f c a).map .neg
  | .UnaryOp .Not a _ => (f c a).map .not
  | .Compare a ops bs _ => compCmp (f c) a ops bs
  | .BoolOp op es _ => compBo (f c) op es
  | .IfExp t a b _ => (f c t).bind fun z => comp2 (f c) a b (.ite z)
  | .Subscript a b _ => compSub (f c) a b
  | _ => none
theorem stgA_ok {f : Cmp} (sf : Snd f) : Snd (stgA f) := by
  intro c e ce h
  unfold stgA at h
  split at h
  · exact const_ok h
  · exact name_ok h
  · obtain ⟨cs, hc, rfl⟩ := Option.map_eq_some_iff.mp h
    exact fun X R W g => SE.of' (me_tup (ma_of sf g hc)) rfl (by intro _; rfl)
  · obtain ⟨cs, hc, rfl⟩ := Option.map_eq_some_iff.mp h
    exact fun X R W g => SE.of' (me_lst (ma_of sf g hc)) rfl (by intro _; rfl)
  · obtain ⟨x, y, hx, hy, rfl⟩ := comp2_of h
    exact fun X R W g => SE.of' (me_bin g.hK (sf c _ x hx X R W g).mo (sf c _ y hy X R W g).mo) rfl (by intro _; rfl)
  · obtain ⟨x, hx, rfl⟩ := Option.map_eq_some_iff.mp h
    exact fun X R W g => SE.of (me_neg (sf c _ x hx X R W g).me.pe) rfl
  · obtain ⟨x, hx, rfl⟩ := Option.map_eq_some_iff.mp h
    exact fun X R W g => SE.of (me_not (sf c _ x hx X R W g).me) rfl
  · exact cmp_ok sf h
  · exact bool_ok sf h
  · obtain ⟨z, hz, h⟩ := Option.bind_eq_some_iff.mp h
    obtain ⟨x, y, hx, hy, rfl⟩ := comp2_of h
    exact fun X R W g => SE.of (me_iteT (sf c _ z hz X R W g).me.pt (sf c _ x hx X R W g).me (sf c _ y hy X R W g).me) rfl
  · exact sub_ok sf h
  · cases h
end Mi
end
section
namespace Mi
open PySem PySem.Spec L2
def b1Of (x : Str) : Option B1 :=
  if x = "len" then some .len else if x = "all" then some .all else if x = "any" then some .any else if x = "sum" then some .sum else if x = "max" then some .max else if x = "min" then some .min else
  if x = "tuple" then some .tuple else if x = "list" then some .list else if x = "int" then some .int else
  if x = "sorted" then some .sorted else if x = "dict" then some .dict else none
def tyN (x : Str) : Option Ty :=
  if x = "str" then some .str else if x = "tuple" then some .tuple else if x = "list" then some .list else if x = "int" then some .int else if x = "bool" then some .bool else if x = "dict" then some .dict else none
theorem tyN_of {x : Str} {T : Ty} (h : tyN x = some T) : x = tyName T ∧ x ∈ bltL := by
  unfold tyN at h
  repeat' (split at h; · (rename_i e; subst e; cases h; exact ⟨rfl, by decide +kernel⟩))
  cases h
def okN (c : Ctx) (x : Str) : Bool := !dbg.contains x && glB (c.sc.names.lookup x)
theorem okN_of {X : Cx} {R : Rt} {W : WX} {c : Ctx} {x : Str} (g : Good X R W c) (h : okN c x = true) : Gl X x ∧ (x == ("__debug__" : Str)) = false ∧ x ≠ "__name__" := by
  unfold okN at h
  rw [Bool.and_eq_true] at h
  obtain ⟨d1, d2, d3⟩ := dbg_of (x := x) (by simpa using h.1)
  exact ⟨gl_of g h.2, d1, d3⟩
def compBlt (f : Cmp) (c : Ctx) (x : Str) : List Expr → Option CE
  | [a] => if plainE a = true then (b1Of x).bind fun g => (f c a).map (.b1 g) else none
  | [a, b] => if plainE a = true ∧ plainE b = true then
      if x = "max" then comp2 (f c) a b (.b2 .max) else if x = "min" then comp2 (f c) a b (.b2 .min) else
      if x = "isinstance" then match b with
        | .Name T _ => if okN c T = true then (tyN T).bind fun t => (f c a).map fun z => .isi z t else none
        | _ => none
      else none
      else none
  | _ => none
def compCall (f : Cmp) (c : Ctx) (fn : Expr) (args : List Expr) : Option CE :=
  match fn with
  | .Name x _ => if okN c x = true then match c.funs.lookup x with
      | some n => match args with
        | [] => if n = 0 then some (.call x []) else none
        | e :: es => (compL (f c) (e :: es)).map (.call x)
      | none => compBlt f c x args
      else none
  | _ => none
section
variable {f : Cmp} {c : Ctx} {ce : CE} {pos p : Pos}
theorem b1_ok {X : Cx} {R : Rt} {W : WX} (g : Good X R W c) {x : Str} {b : B1} (h : b1Of x = some b) {a : Expr} {ca : CE} (hg : Gl X x) (ha : PE X a (tO R W ca)) (hp : plainE a = true) : ME X R W (.Call (.Name x p) [a] [] pos) (.b1 b ca) := by
  unfold b1Of at h
  split at h
  · rename_i e; subst e; cases h; exact me_b1 g.hK cr_len hg (g.blt _ (by decide +kernel)) (by decide +kernel) (by decide +kernel) (by decide +kernel) ha hp
  split at h
  · rename_i e; subst e; cases h; exact me_b1 g.hK (cr_allM g.calm) hg (g.blt _ (by decide +kernel)) (by decide +kernel) (by decide +kernel) (by decide +kernel) ha hp
  split at h
  · rename_i e; subst e; cases h; exact me_b1 g.hK (cr_anyM g.calm) hg (g.blt _ (by decide +kernel)) (by decide +kernel) (by decide +kernel) (by decide +kernel) ha hp
  split at h
  · rename_i e; subst e; cases h; exact me_b1 g.hK (cr_sumM g.calm) hg (g.blt _ (by decide +kernel)) (by decide +kernel) (by decide +kernel) (by decide +kernel) ha hp
  split at h
  · rename_i e; subst e; cases h; exact me_b1 g.hK (cr_maxM g.calm) hg (g.blt _ (by decide +kernel)) (by decide +kernel) (by decide +kernel) (by decide +kernel) ha hp
  split at h
  · rename_i e; subst e; cases h; exact me_b1 g.hK (cr_minM g.calm) hg (g.blt _ (by decide +kernel)) (by decide +kernel) (by decide +kernel) (by decide +kernel) ha hp
  split at h
  · rename_i e; subst e; cases h; exact me_t1 g.hK cr_tupleM hg (g.blt _ (by decide +kernel)) (by decide +kernel) (by decide +kernel) (by decide +kernel) ha hp
  split at h
  · rename_i e; subst e; cases h; exact me_t1 g.hK (cr_listM g.calm) hg (g.blt _ (by decide +kernel)) (by decide +kernel) (by decide +kernel) (by decide +kernel) ha hp
  split at h
  · rename_i e; subst e; cases h; exact me_t1 g.hK cr_intM hg (g.blt _ (by decide +kernel)) (by decide +kernel) (by decide +kernel) (by decide +kernel) ha hp
  split at h
  · rename_i e; subst e; cases h; exact me_b1 g.hK (cr_sortedM g.hu) hg (g.blt _ (by decide +kernel)) (by decide +kernel) (by decide +kernel) (by decide +kernel) ha hp
  split at h
  · rename_i e; subst e; cases h; exact me_t1 g.hK (cr_dictM g.calm) hg (g.blt _ (by decide +kernel)) (by decide +kernel) (by decide +kernel) (by decide +kernel) ha hp
  cases h
theorem blt_ok (sf : Snd f) {x : Str} (hn : okN c x = true) {args : List Expr} (h : compBlt f c x args = some ce) : EOk c (.Call (.Name x p) args [] pos) ce := by
  intro X R W g
  obtain ⟨hg, d1, d2⟩ := okN_of g hn
  unfold compBlt at h
  split at h
  · split at h
    · rename_i hp
      obtain ⟨b, hb, h⟩ := Option.bind_eq_some_iff.mp h
      obtain ⟨y, hy, rfl⟩ := Option.map_eq_some_iff.mp h
      exact SE.of (b1_ok g hb hg (sf c _ y hy X R W g).mo hp) rfl
    · cases h
  · split at h
    · rename_i hp
      split at h
      · rename_i e; subst e
        obtain ⟨y, z, hy, hz, rfl⟩ := comp2_of h
        exact SE.of (me_max g.calm hg (g.blt _ (by decide +kernel)) (sf c _ y hy X R W g).me.pe (sf c _ z hz X R W g).me.pe hp.1 hp.2) rfl
      split at h
      · rename_i e; subst e
        obtain ⟨y, z, hy, hz, rfl⟩ := comp2_of h
        exact SE.of (me_min g.calm hg (g.blt _ (by decide +kernel)) (sf c _ y hy X R W g).me.pe (sf c _ z hz X R W g).me.pe hp.1 hp.2) rfl
      split at h
      · rename_i e; subst e
        split at h
        · split at h
          · rename_i hT
            obtain ⟨t, ht, h⟩ := Option.bind_eq_some_iff.mp h
            obtain ⟨y, hy, rfl⟩ := Option.map_eq_some_iff.mp h
            obtain ⟨rfl, hb⟩ := tyN_of ht
            exact SE.of (me_isi g.hK hg (g.blt _ (by decide +kernel)) (okN_of g hT).1 (g.blt _ hb) (sf c _ y hy X R W g).mo hp.1) rfl
          · cases h
        · cases h
      · cases h
    · cases h
  · cases h
theorem call_ok (sf : Snd f) {fn : Expr} {args : List Expr} (h : compCall f c fn args = some ce) : EOk c (.Call fn args [] pos) ce := by
  unfold compCall at h
  split at h
  · split at h
    · rename_i x p hn
      split at h
      · rename_i n hf
        intro X R W g
        obtain ⟨hg, d1, d2⟩ := okN_of g hn
        obtain ⟨k, a, fd, ps, F, hr, hm, hk, hb, hl⟩ := g.fns x n hf
        split at h
        · split at h
          · rename_i e0
            cases h
            subst e0
            have : ps = [] := List.eq_nil_of_length_eq_zero hl
            subst this
            exact SE.of (me_call0 F hr hg hm hk hb g.tk d1) rfl
          · cases h
        · obtain ⟨cs, hc, rfl⟩ := Option.map_eq_some_iff.mp h
          have hc' := hc
          unfold compL at hc'
          split at hc'
          · rename_i hp
            obtain ⟨x1, hx1, hc'⟩ := Option.bind_eq_some_iff.mp hc'
            obtain ⟨xs1, hxs1, _⟩ := Option.map_eq_some_iff.mp hc'
            exact SE.of (me_call F hr hg hm hk hb g.tk (maa_of sf g hc) hp (plain_all hxs1) d1) rfl
          · cases hc'
      · exact blt_ok sf hn h
    · cases h
  · cases h
end
def stgB (f : Cmp) : Cmp := fun c e => match e with
  | .Call fn args [] _ => compCall f c fn args
  | _ => none
theorem stgB_ok {f : Cmp} (sf : Snd f) : Snd (stgB f) := by
  intro c e ce h
  unfold stgB at h
  split at h
  · exact call_ok sf h
  · cases h
end Mi
end
section
namespace Mi
open PySem PySem.Spec L2
def tgOk (c : Ctx) (x : Str) : Bool := match c.sc.names.lookup x with
  | some .local => true
  | some .cell => c.fnc x
  | _ => false
def compTn (c : Ctx) : Expr → Option Nat
  | .Name x _ => if tgOk c x = true then ixOf c.N x else none
  | _ => none
def compTs (c : Ctx) : List Expr → Option (List Nat)
  | [] => some []
  | e :: es => (compTn c e).bind fun i => (compTs c es).map (i :: ·)
def compT (c : Ctx) (e : Expr) : Option Tg := match e with
  | .Tuple es _ _ => (compTs c es).map .tp
  | e => (compTn c e).map .nm
section
variable {X : Cx} {R : Rt} {W : WX} {c : Ctx}
theorem tgOk_of (g : Good X R W c) {x : Str} (h : tgOk c x = true) : L2.Loc X.env.scope x ∧ (X.fn x = true ∨ X.env.scope.names.lookup x = some .local) := by
  unfold tgOk at h
  unfold L2.Loc
  rw [g.sc, g.fn]
  split at h
  · rename_i e; exact ⟨.inl e, .inr e⟩
  · rename_i e; exact ⟨.inr e, .inl h⟩
  · cases h
theorem compTn_ok {e : Expr} {i : Nat} (h : compTn c e = some i) : ∃ x p, e = .Name x p ∧ tgOk c x = true ∧ ixOf c.N x = some i := by
  cases e with
  | Name x p =>
    have h : (if tgOk c x = true then ixOf c.N x else none) = some i := h
    split at h
    · exact ⟨x, p, rfl, by assumption, h⟩
    · cases h
  | _ => cases h
theorem pgn_ok (g : Good X R W c) {e : Expr} {i : Nat} (h : compTn c e = some i) : PG X e (gName i) := by
  obtain ⟨x, p, rfl, h1, h2⟩ := compTn_ok h
  obtain ⟨l1, l2⟩ := tgOk_of g h1
  exact pg_name (by rw [g.hN]; exact g.nd) (by rw [g.hN]; exact ixOf_of h2) l1 l2
theorem pgs_ok (g : Good X R W c) : ∀ {es : List Expr} {is : List Nat}, compTs c es = some is → PGs X es (gsOf is) ∧ (assignEach es X.env).length = is.length ∧ (assignEach es X.env).findIdx? (·.1) = none
  | [], is, h => by cases h; exact ⟨pgs_nil, rfl, rfl⟩
  | e :: es, is, h => by
    obtain ⟨i, hi, h⟩ := Option.bind_eq_some_iff.mp h
    obtain ⟨js, hj, rfl⟩ := Option.map_eq_some_iff.mp h
    obtain ⟨p1, p2, p3⟩ := pgs_ok g hj
    have pe := pgn_ok g hi
    obtain ⟨x, p, rfl, _, _⟩ := compTn_ok hi
    refine ⟨pgs_cons pe p1, ?_, ?_⟩
    · show (assignEach es X.env).length + 1 = _
      rw [p2, List.length_cons]
    · show (((false, assign (.Name x p) X.env) : Bool × (Value → Sem Unit)) :: assignEach es X.env).findIdx? (·.1) = none
      rw [List.findIdx?_cons, p3]
      rfl
theorem pg_ok (g : Good X R W c) {e : Expr} {T : Tg} (h : compT c e = some T) : PG X e (gOf R.K T) := by
  have K : (compTn c e).map Tg.nm = some T → PG X e (gOf R.K T) := fun h => by
    obtain ⟨i, hi, rfl⟩ := Option.map_eq_some_iff.mp h
    exact pgn_ok g hi
  cases e with
  | Tuple es k p =>
    obtain ⟨is, hi, rfl⟩ := Option.map_eq_some_iff.mp (show (compTs c es).map Tg.tp = some T from h)
    obtain ⟨p1, p2, p3⟩ := pgs_ok g hi
    rw [← g.hK]
    exact pg_tup g.calm p1 p2 p3
  | _ => exact K h
end
def isW : CE → Bool
  | .rng1 _ | .rng2 _ _ | .rng3 _ _ _ | .enm _ | .zp _ _ => false
  | _ => true
theorem evI_of {cf : Cf} {ce : CE} (h : isW ce = true) (ρ : Env) : evI cf ce ρ = walkV ce (evE cf ce) ρ := by
  cases ce <;> first | (cases h; done) | (rw [evI] <;> (intros; contradiction))
def compRng (f : Expr → Option CE) : List Expr → Option CE
  | [a] => if plainE a = true then (f a).map .rng1 else none
  | [a, b] => if plainE a = true ∧ plainE b = true then comp2 f a b .rng2 else none
  | [a, b, d] => if plainE a = true ∧ plainE b = true ∧ plainE d = true then (f a).bind fun x => comp2 f b d (.rng3 x) else none
  | _ => none
def isCallOf : Expr → Option (Str × List Expr)
  | .Call (.Name x _) args [] _ => some (x, args)
  | _ => none
def isTupE : Expr → Bool
  | .Tuple _ _ _ => true
  | _ => false
def compEnm (f : Expr → Option CE) : List Expr → Option CE
  | [a] => if plainE a = true then (f a).map .enm else none
  | _ => none
def compI (f : Cmp) (c : Ctx) (tg it : Expr) : Option CE :=
  match isCallOf it with
  | some (x, args) => if x = "range" then (if okN c x = true then compRng (f c) args else none) else
    if x = "enumerate" then (if okN c x = true ∧ isTupE tg = true then compEnm (f c) args else none) else (f c it).bind fun z => if isW z = true then some z else none
  | none => (f c it).bind fun z => if isW z = true then some z else none
section
variable {f : Cmp} {c : Ctx} {ce : CE} {tg it : Expr}
theorem isCall_of {x : Str} {args : List Expr} (h : isCallOf it = some (x, args)) : ∃ p pos, it = .Call (.Name x p) args [] pos := by
  unfold isCallOf at h
  split at h
  · cases h; exact ⟨_, _, rfl⟩
  · cases h
theorem rng_ok (sf : Snd f) {p pos : Pos} {args : List Expr} (hn : okN c "range" = true) (h : compRng (f c) args = some ce) : IOk c tg (.Call (.Name "range" p) args [] pos) ce := by
  intro X R W g
  obtain ⟨hg, d1, d2⟩ := okN_of g hn
  have hm := g.blt "range" (by decide +kernel)
  unfold compRng at h
  split at h
  · split at h
    · rename_i hp
      obtain ⟨x, hx, rfl⟩ := Option.map_eq_some_iff.mp h
      exact mi_rng1 hg hm (sf c _ x hx X R W g).me.pe hp
    · cases h
  · split at h
    · rename_i hp
      obtain ⟨x, y, hx, hy, rfl⟩ := comp2_of h
      exact mi_rng2 hg hm (sf c _ x hx X R W g).me.pe (sf c _ y hy X R W g).me.pe hp.1 hp.2
    · cases h
  · split at h
    · rename_i hp
      obtain ⟨x, hx, h⟩ := Option.bind_eq_some_iff.mp h
      obtain ⟨y, z, hy, hz, rfl⟩ := comp2_of h
      exact mi_rng3 hg hm (sf c _ x hx X R W g).me.pe (sf c _ y hy X R W g).me.pe (sf c _ z hz X R W g).me.pe hp.1 hp.2.1 hp.2.2
    · cases h
  · cases h
theorem isTupE_of (h : isTupE tg = true) : ∃ es k p, tg = .Tuple es k p := by
  cases tg <;> first | exact ⟨_, _, _, rfl⟩ | cases h
theorem enm_ok (sf : Snd f) {p pos : Pos} {args : List Expr} (ht : isTupE tg = true) (hn : okN c "enumerate" = true) (h : compEnm (f c) args = some ce) : IOk c tg (.Call (.Name "enumerate" p) args [] pos) ce := by
  intro X R W g
  obtain ⟨hg, d1, d2⟩ := okN_of g hn
  obtain ⟨es, k, tp, rfl⟩ := isTupE_of ht
  unfold compEnm at h
  split at h
  · split at h
    · rename_i hp
      obtain ⟨x, hx, rfl⟩ := Option.map_eq_some_iff.mp h
      exact mi_enm g.hK hg (g.blt "enumerate" (by decide +kernel)) (sf c _ x hx X R W g).mo hp
    · cases h
  · cases h
theorem compI_ok (sf : Snd f) (h : compI f c tg it = some ce) : IOk c tg it ce := by
  have K : ((f c it).bind fun z => if isW z = true then some z else none) = some ce → IOk c tg it ce := fun h => by
    obtain ⟨z, hz, h⟩ := Option.bind_eq_some_iff.mp h
    split at h
    · rename_i hw
      cases h
      exact fun X R W g => mi_val g.hK (sf c it _ hz X R W g).mo (evI_of hw)
    · cases h
  unfold compI at h
  split at h
  · rename_i x args hc
    split at h
    · rename_i e
      subst e
      split at h
      · rename_i hn
        obtain ⟨p, pos, rfl⟩ := isCall_of hc
        exact rng_ok sf hn h
      · cases h
    · split at h
      · rename_i e
        subst e
        split at h
        · rename_i hn
          obtain ⟨p, pos, rfl⟩ := isCall_of hc
          exact enm_ok sf hn.2 hn.1 h
        · cases h
      · exact K h
  · exact K h
theorem fold_of (h : notSet it = true) (env : PySem.Env) (x : Value) : foldedSetIterable it env x = pure x := by
  cases it <;> first | rfl | cases h
def ownOf (N : List Str) (scope : Scope) : List (Str × Nat) := scope.names.filterMap fun y => match y.2 with
  | .local => (ixOf N y.1).map fun i => (y.1, i)
  | .cell => (ixOf N y.1).map fun i => (y.1, i)
  | _ => none
def subL (a b : List Nat) : Bool := a.all fun i => b.contains i
theorem subL_of {a b : List Nat} (h : subL a b = true) : ∀ i ∈ a, i ∈ b := fun i hi => by
  unfold subL at h
  rw [List.all_eq_true] at h
  simpa using h i hi
structure Blk1 (f : Cmp) (c : Ctx) (scope : Scope) (tg it : Expr) (T : Tg) (ci : CE) : Prop where
  blk : blkC c.N c.sc scope (ownOf c.N scope) = true
  hs : notSet it = true
  ht : compT (c.blk scope) tg = some T
  hv : subL (tgL T) ((ownOf c.N scope).map (·.2)) = true
  hi : compI f c tg it = some ci
def compBlk (f : Cmp) (c : Ctx) (scope : Scope) (tg it : Expr) : Option (Tg × CE) :=
  if blkC c.N c.sc scope (ownOf c.N scope) = true ∧ notSet it = true then (compT (c.blk scope) tg).bind fun T => if subL (tgL T) ((ownOf c.N scope).map (·.2)) = true then (compI f c tg it).map fun ci => (T, ci) else none else none
theorem compBlk_of {scope : Scope} {T : Tg} {ci : CE} (h : compBlk f c scope tg it = some (T, ci)) : Blk1 f c scope tg it T ci := by
  unfold compBlk at h
  split at h
  · rename_i h1
    obtain ⟨T', hT, h⟩ := Option.bind_eq_some_iff.mp h
    split at h
    · rename_i h2
      obtain ⟨ci', hi, e⟩ := Option.map_eq_some_iff.mp h
      cases e
      exact ⟨h1.1, h1.2, hT, h2, hi⟩
    · cases h
  · cases h
inductive LcP where
  | one (elt tg it : Expr)
  | flt (elt tg it cond : Expr)
  | two (elt tg it tg2 it2 : Expr)
def lcOf (elt : Expr) : List Comprehension → Option LcP
  | [g] => if g.is_async = 0 then match g.ifs with
      | [] => some (.one elt g.target g.iter)
      | [cond] => some (.flt elt g.target g.iter cond)
      | _ => none
      else none
  | [g, g2] => if g.is_async = 0 ∧ g2.is_async = 0 then match g.ifs, g2.ifs with
      | [], [] => some (.two elt g.target g.iter g2.target g2.iter)
      | _, _ => none
      else none
  | _ => none
def compLc (f : Cmp) (c : Ctx) (scope : Scope) : LcP → Option CE
  | .one elt tg it => (compBlk f c scope tg it).bind fun (T, ci) => (f (c.blk scope) elt).map fun x => .lc ((ownOf c.N scope).map (·.2)) x T ci
  | .flt elt tg it cond => (compBlk f c scope tg it).bind fun (T, ci) => (f (c.blk scope) cond).bind fun t => (f (c.blk scope) elt).map fun x => .lcf ((ownOf c.N scope).map (·.2)) x T ci t
  | .two elt tg it tg2 it2 => (compBlk f c scope tg it).bind fun (T, ci) => if notSet it2 = true then (compT (c.blk scope) tg2).bind fun T2 => if subL (tgL T2) ((ownOf c.N scope).map (·.2)) = true then
      (compI f (c.blk scope) tg2 it2).bind fun ci2 => (f (c.blk scope) elt).map fun x => .lc2 ((ownOf c.N scope).map (·.2)) (tgL T2) x T ci T2 ci2 else none else none
def LcIs (elt : Expr) (gens : List Comprehension) : LcP → Prop
  | .one e tg it => e = elt ∧ gens = [⟨tg, it, [], 0⟩]
  | .flt e tg it cond => e = elt ∧ gens = [⟨tg, it, [cond], 0⟩]
  | .two e tg it tg2 it2 => e = elt ∧ gens = [⟨tg, it, [], 0⟩, ⟨tg2, it2, [], 0⟩]
theorem lcOf_of {elt : Expr} {gens : List Comprehension} {p : LcP} (h : lcOf elt gens = some p) : LcIs elt gens p := by
  cases gens with
  | nil => cases h
  | cons g gs =>
    obtain ⟨tg, it, ifs, a⟩ := g
    cases gs with
    | nil =>
      unfold lcOf at h
      dsimp only at h
      split at h
      · rename_i e; subst e
        split at h
        · cases h; exact ⟨rfl, rfl⟩
        · cases h; exact ⟨rfl, rfl⟩
        · cases h
      · cases h
    | cons g2 gs2 =>
      obtain ⟨tg2, it2, ifs2, a2⟩ := g2
      cases gs2 with
      | nil =>
        unfold lcOf at h
        dsimp only at h
        split at h
        · rename_i e; obtain ⟨rfl, rfl⟩ := e
          split at h
          · cases h; exact ⟨rfl, rfl⟩
          · cases h
        · cases h
      | cons _ _ => cases h
variable {X : Cx} {R : Rt} {W : WX} {elt : Expr} {gens : List Comprehension} {scope : Scope} {pos : Pos} {lp : LcP}
theorem isVar_lc (h : compLc f c scope lp = some ce) : isVar ce = false := by
  cases lp with
  | one e tg it =>
    obtain ⟨⟨T, ci⟩, _, h⟩ := Option.bind_eq_some_iff.mp h
    obtain ⟨x, _, rfl⟩ := Option.map_eq_some_iff.mp h
    rfl
  | flt e tg it cond =>
    obtain ⟨⟨T, ci⟩, _, h⟩ := Option.bind_eq_some_iff.mp h
    obtain ⟨t, _, h⟩ := Option.bind_eq_some_iff.mp h
    obtain ⟨x, _, rfl⟩ := Option.map_eq_some_iff.mp h
    rfl
  | two e tg it tg2 it2 =>
    obtain ⟨⟨T, ci⟩, _, h⟩ := Option.bind_eq_some_iff.mp h
    dsimp only at h
    split at h
    · obtain ⟨T2, _, h⟩ := Option.bind_eq_some_iff.mp h
      split at h
      · obtain ⟨ci2, _, h⟩ := Option.bind_eq_some_iff.mp h
        obtain ⟨x, _, rfl⟩ := Option.map_eq_some_iff.mp h
        rfl
      · cases h
    · cases h
theorem blkOk_of (g : Good X R W c) (h : blkC c.N c.sc scope (ownOf c.N scope) = true) : BlkOk X.N X.env.scope scope (ownOf c.N scope) := by
  rw [g.hN, g.sc]
  exact blkOk_by h
theorem lc_ok (sf : Snd f) (g : Good X R W c) (hl : lcOf elt gens = some lp) (h : compLc f c scope lp = some ce) : PE X (.ListComp elt gens scope pos) (tE R W ce) := by
  have q := lcOf_of hl
  have nd : X.N.Nodup := by rw [g.hN]; exact g.nd
  cases lp with
  | one e tg it =>
    obtain ⟨rfl, rfl⟩ := q
    obtain ⟨⟨T, ci⟩, hb, h⟩ := Option.bind_eq_some_iff.mp h
    obtain ⟨x, hx, rfl⟩ := Option.map_eq_some_iff.mp h
    have B := compBlk_of hb
    exact me_lc g.calm nd (compI_ok sf B.hi X R W g) (blkOk_of g B.blk) (subL_of B.hv) (fun s H C cl fp => pg_ok (g.blk s H C cl fp) B.ht) (fun s H C cl fp => (sf _ _ _ hx _ R W0 (g.blk s H C cl fp)).me.pe) (fold_of B.hs _)
  | flt e tg it cond =>
    obtain ⟨rfl, rfl⟩ := q
    obtain ⟨⟨T, ci⟩, hb, h⟩ := Option.bind_eq_some_iff.mp h
    obtain ⟨t, ht, h⟩ := Option.bind_eq_some_iff.mp h
    obtain ⟨x, hx, rfl⟩ := Option.map_eq_some_iff.mp h
    have B := compBlk_of hb
    exact me_lcf g.calm nd (compI_ok sf B.hi X R W g) (blkOk_of g B.blk) (subL_of B.hv) (fun s H C cl fp => pg_ok (g.blk s H C cl fp) B.ht) (fun s H C cl fp => (sf _ _ _ ht _ R W0 (g.blk s H C cl fp)).me.pt) (fun s H C cl fp => (sf _ _ _ hx _ R W0 (g.blk s H C cl fp)).me.pe) (fold_of B.hs _)
  | two e tg it tg2 it2 =>
    obtain ⟨rfl, rfl⟩ := q
    obtain ⟨⟨T, ci⟩, hb, h⟩ := Option.bind_eq_some_iff.mp h
    have B := compBlk_of hb
    dsimp only at h
    split at h
    · rename_i hs2
      obtain ⟨T2, hT2, h⟩ := Option.bind_eq_some_iff.mp h
      split at h
      · rename_i hv2
        obtain ⟨ci2, hi2, h⟩ := Option.bind_eq_some_iff.mp h
        obtain ⟨x, hx, rfl⟩ := Option.map_eq_some_iff.mp h
        exact me_lc2 g.calm nd (compI_ok sf B.hi X R W g) (blkOk_of g B.blk) (subL_of B.hv) (fun i h => h) (subL_of hv2) (fun s H C cl fp => pg_ok (g.blk s H C cl fp) B.ht) (fun s H C cl fp => compI_ok sf hi2 _ R W0 (g.blk s H C cl fp))
          (fun s H C cl fp => pg_ok (g.blk s H C cl fp) hT2) (fun s H C cl fp => (sf _ _ _ hx _ R W0 (g.blk s H C cl fp)).me.pe) (fold_of B.hs _) (fun env => fold_of hs2 env)
      · cases h
    · cases h
theorem lcs_ok (sf : Snd f) (g : Good X R W c) (hl : lcOf elt gens = some lp) (h : compLc f c scope lp = some ce) {i : Nat} {y : Str} {py spos : Pos} (hy : c.N[i]? = some y) (hyl : c.sc.names.lookup y = some .local)
    (hsw : swapsWith (.ListComp elt gens scope pos) (some (.Name y py)) spos.line X.env = pure true) : PS X (.Assign [.Name y py] (.ListComp elt gens scope pos) spos) (tAsg (tE R W ce) (gName i)) := by
  have q := lcOf_of hl
  have nd : X.N.Nodup := by rw [g.hN]; exact g.nd
  have hy : X.N[i]? = some y := by rw [g.hN]; exact hy
  have hyl : X.env.scope.names.lookup y = some .local := by rw [g.sc]; exact hyl
  cases lp with
  | one e tg it =>
    obtain ⟨rfl, rfl⟩ := q
    obtain ⟨⟨T, ci⟩, hb, h⟩ := Option.bind_eq_some_iff.mp h
    obtain ⟨x, hx, rfl⟩ := Option.map_eq_some_iff.mp h
    have B := compBlk_of hb
    exact ms_lc (t := tYesE) g.calm nd hy hyl hsw (compI_ok sf B.hi X R W g) (blkOk_of g B.blk) (subL_of B.hv) (fun s H C cl fp => pg_ok (g.blk s H C cl fp) B.ht) (fun s H C cl fp => (sf _ _ _ hx _ R W0 (g.blk s H C cl fp)).me.pe) (fold_of B.hs _)
  | flt e tg it cond =>
    obtain ⟨rfl, rfl⟩ := q
    obtain ⟨⟨T, ci⟩, hb, h⟩ := Option.bind_eq_some_iff.mp h
    obtain ⟨t, ht, h⟩ := Option.bind_eq_some_iff.mp h
    obtain ⟨x, hx, rfl⟩ := Option.map_eq_some_iff.mp h
    have B := compBlk_of hb
    exact ms_lcf (t := tYesE) g.calm nd hy hyl hsw (compI_ok sf B.hi X R W g) (blkOk_of g B.blk) (subL_of B.hv) (fun s H C cl fp => pg_ok (g.blk s H C cl fp) B.ht) (fun s H C cl fp => (sf _ _ _ ht _ R W0 (g.blk s H C cl fp)).me.pt) (fun s H C cl fp => (sf _ _ _ hx _ R W0 (g.blk s H C cl fp)).me.pe) (fold_of B.hs _)
  | two e tg it tg2 it2 =>
    obtain ⟨rfl, rfl⟩ := q
    obtain ⟨⟨T, ci⟩, hb, h⟩ := Option.bind_eq_some_iff.mp h
    have B := compBlk_of hb
    dsimp only at h
    split at h
    · rename_i hs2
      obtain ⟨T2, hT2, h⟩ := Option.bind_eq_some_iff.mp h
      split at h
      · rename_i hv2
        obtain ⟨ci2, hi2, h⟩ := Option.bind_eq_some_iff.mp h
        obtain ⟨x, hx, rfl⟩ := Option.map_eq_some_iff.mp h
        exact ms_lc2 g.calm nd hy hyl hsw (compI_ok sf B.hi X R W g) (blkOk_of g B.blk) (subL_of B.hv) (fun i h => h) (subL_of hv2) (fun s H C cl fp => pg_ok (g.blk s H C cl fp) B.ht) (fun s H C cl fp => compI_ok sf hi2 _ R W0 (g.blk s H C cl fp))
          (fun s H C cl fp => pg_ok (g.blk s H C cl fp) hT2) (fun s H C cl fp => (sf _ _ _ hx _ R W0 (g.blk s H C cl fp)).me.pe) (fold_of B.hs _) (fun env => fold_of hs2 env)
      · cases h
    · cases h
where
  tYesE : TE := fun _ _ _ => False
end
def stgC (f : Cmp) : Cmp := fun c e => match e with
  | .ListComp elt gens scope _ => (lcOf elt gens).bind fun lp => compLc f c scope lp
  | _ => none
theorem stgC_ok {f : Cmp} (sf : Snd f) : Snd (stgC f) := by
  intro c e ce h
  unfold stgC at h
  split at h
  · obtain ⟨lp, hl, h⟩ := Option.bind_eq_some_iff.mp h
    exact fun X R W g => SE.of' (lc_ok sf g hl h) (isVar_lc h) (by intro _; rfl)
  · cases h
end Mi
end
section
namespace Mi
open PySem PySem.Spec PyProof.Rows L2
section
variable {X : Cx}
abbrev InBlk (X : Cx) (scope : Scope) (P : Cx → Prop) : Prop := ∀ (s : Shared) (H : Hp) (C : Addr) (cl : List (Str × Addr)) (fp : List Addr), P (X.blk s H scope (compEnvC scope cl C X.env) fp)
def addK (D : Addr) (Nx : Hp → Prop) (y z : V) (H : Hp) : Prop := ∃ kvs k, y = kV k ∧ H D = some (.dK kvs) ∧ kvs.length < sizeLine ∧ Nx (upd H D (.dK (putK kvs k z)))
def tDc2 (wi : TI) (g : TG) (wi1 : TI) (g1 : TG) (tk tv : TE) (vs vs1 : List Nat) : TE := fun σ H Q => wi σ H fun J H1 => ∀ D, H1 D = none → ∃ W : Nat → Nat → Hp → Prop, (∃ m, W 0 m (upd H1 D (.dK []))) ∧ ∀ i m H, W i m H →
  (J.stop i H ∧ Q (.ref D) H) ∨ (J.go i H ∧ ∃ Nx : Hp → Prop, (∀ H', Nx H' → ∃ m', m' < m ∧ W (i + 1) m' H') ∧ ∀ x H', J.yld i H x H' → g x (wipe σ vs) H' fun σ2 H2 => wipe σ2 vs = wipe σ vs ∧
    wi1 σ2 H2 fun J1 H4 => ∃ V1 : Nat → Nat → Hp → Prop, (∃ m, V1 0 m H4) ∧ ∀ j k H, V1 j k H →
      (J1.stop j H ∧ Nx H) ∨ (J1.go j H ∧ ∃ Nx1 : Hp → Prop, (∀ H', Nx1 H' → ∃ k', k' < k ∧ V1 (j + 1) k' H') ∧ ∀ x H', J1.yld j H x H' → g1 x (wipe σ2 vs1) H' fun σ3 H5 => wipe σ3 vs1 = wipe σ2 vs1 ∧
        tk σ3 H5 fun y H6 => tv σ3 H6 fun z H7 => addK D Nx1 y z H7))
theorem pe_dc2 {kx vx tg it tg1 it1 : Expr} {scope : Scope} {own : List (Str × Nat)} {vs1 : List Nat} {pos : Pos} {wi wi1 : TI} {g g1 : TG} {tk tv : TE} (calm : X.calm = true) (nd : X.N.Nodup) (hi : PI X tg it wi) (bo : BlkOk X.N X.env.scope scope own) (hv : ∀ i ∈ vs1, i ∈ own.map (·.2))
    (hg : InBlk X scope fun Y => PG Y tg g) (hi1 : InBlk X scope fun Y => PI Y tg1 it1 wi1) (hg1 : InBlk X scope fun Y => PG Y tg1 g1) (hk : InBlk X scope fun Y => PE Y kx tk) (he : InBlk X scope fun Y => PE Y vx tv)
    (hs : ∀ x, foldedSetIterable it X.env x = pure x) (hs1 : ∀ env x, foldedSetIterable it1 env x = pure x) :
    PE X (.DictComp kx vx [⟨tg, it, [], 0⟩, ⟨tg1, it1, [], 0⟩] scope pos) (tDc2 wi g wi1 g1 tk tv (own.map (·.2)) vs1) := by
  refine ⟨fun pins s σ H Q I h => ?_⟩
  rw [arm_eval_DictComp]
  have free : ∀ y ∈ scope.names, y.2 = .free → ∃ c, X.env.cells.lookup y.1 = some c := fun y hy e => (bo.free y hy e).elim (fun k => I.ok.has _ (.inl k)) fun k => I.ok.has _ (.inr k)
  refine wpAny_comprehension_free (use := none) rfl hs (closure_ok free) bo.kind (fun y hy e => by rw [bo.uniq y hy, e]) (thn (hi.run pins s σ H _ I h) fun xv a1 hx => thn hx fun iv a2 h2 => ?_)
  obtain ⟨I0, fp, tn, J, G2, e, J2, T, t2, f2, q⟩ := h2
  subst e
  refine wpAny_newObj_type (newEnv_comp ?_)
  generalize eD : a2.heap.objs.size = D
  have nD : G2 D = none := J2.hok.fresh (Nat.le_of_eq eD)
  obtain ⟨W, ⟨m0, w0⟩, turn⟩ := q D nD
  generalize e3 : ({ a2 with heap := a2.heap.push { cls := .type "dict", data := .dict #[] } } : Shared) = a3
  have J3 : Inv X pins σ (upd G2 D (.dK [])) a3 := by
    rw [← e3]
    refine J2.laid (t' := a2.toks) (fun b o z => Heap.get?_push_of_some _ z) (Nat.le_of_eq eD) ?_
    rw [← eD]
    exact dk_empty a2.heap J2.big
  have h3 : a3.heap = a2.heap.push { cls := .type "dict", data := .dict #[] } := by rw [← e3]
  have lt2 : ∀ b ∈ fp, b < a2.heap.objs.size := fun b hb => let ⟨_, z, _⟩ := T.obj _ _ t2 b hb; Heap.lt_size z
  have f3 : ∀ b ∈ fp, FpOk X pins (upd G2 D (.dK [])) b ∧ b < a3.heap.objs.size := fun b hb => by
    refine ⟨⟨?_, (f2 b hb).2⟩, by rw [h3, Heap.size_push]; exact Nat.lt_succ_of_lt (lt2 b hb)⟩
    rw [upd_ne (by rw [← eD]; exact Nat.ne_of_lt (lt2 b hb))]
    exact (f2 b hb).1
  have t3 : tn 0 a3.heap := T.keep _ _ _ t2 fun b _ o z => by rw [h3]; exact Heap.get?_push_of_some _ z
  have J4 := block_start J3 bo nd f3
  generalize ec : cellsFrom (a3.heap.objs.size + 1) scope.names (cloFrom X.env.cells scope.names []) = cells at J4 ⊢
  have bg := hg a3 (upd G2 D (.dK [])) a3.heap.objs.size cells fp
  have bi1 := hi1 a3 (upd G2 D (.dK [])) a3.heap.objs.size cells fp
  have bg1 := hg1 a3 (upd G2 D (.dK [])) a3.heap.objs.size cells fp
  have bk := hk a3 (upd G2 D (.dK [])) a3.heap.objs.size cells fp
  have be := he a3 (upd G2 D (.dK [])) a3.heap.objs.size cells fp
  show codeAny _ _ (.compStart (.DictComp kx vx [⟨tg, it, [], 0⟩, ⟨tg1, it1, [], 0⟩] scope pos) 0 (.ref I0) (.ref D) (compEnvC scope cells a3.heap.objs.size X.env)) (compPost (model X.prog X.w) X.A X.xe none _ (.ref D) a3.heap.objs.size) { a3 with heap := pushCells (a3.heap.push { cls := .type "dict", data := .dict #[] }) scope.names }
  have n3 : ∀ b ∈ fp, (upd G2 D (.dK [])) b = none := fun b hb => (f3 b hb).1.1
  generalize ece : compEnvC scope cells a3.heap.objs.size X.env = ce at J4 bg bi1 bg1 bk be ⊢
  have cL : ce.locals = a3.heap.objs.size := by rw [← ece]; rfl
  generalize eG : upd G2 D (.dK []) = G3 at J3 J4 bg bi1 bg1 bk be w0 n3 f3
  generalize e4 : ({ a3 with heap := pushCells (a3.heap.push { cls := .type "dict", data := .dict #[] }) scope.names } : Shared) = a4 at J4 ⊢
  have t4 : tn 0 a4.heap := T.keep _ _ _ t3 fun b _ o z => by rw [← e4]; exact pushCells_keeps _ _ _ _ (Heap.get?_push_of_some _ z)
  generalize eY : X.blk a3 G3 scope ce fp = Y at J4 bg bi1 bg1 bk be
  have yc : Y.calm = true := by rw [← eY]; exact calm
  have yx : Y.xe = fun _ _ => False := by rw [← eY]
  have ypn : ∀ {p : Addr × Obj}, p ∈ Y.pn ++ [] → False := fun {p} hp => by rw [← eY] at hp; exact absurd (show p ∈ ([] : List (Addr × Obj)) ++ [] from hp) (by simp)
  have yex : ∀ b ∈ fp, b ∈ Y.ex := fun b hb => by rw [← eY]; exact hb
  have yP : Y.prog = X.prog := by rw [← eY]
  have yw : Y.w = X.w := by rw [← eY]
  have yK : Y.K = X.K := by rw [← eY]
  have yA : Y.A = X.A := by rw [← eY]
  have yE : Y.env = ce := by rw [← eY]
  have st : ∀ {σ' : L2.St} {G' : Hp} {a' : Shared}, Inv Y [] σ' G' a' → (∀ b ∈ fp, G' b = none) → ∀ b ∈ fp, FpOk Y [] G' b := fun {σ' G' a'} Z hn b hb =>
    ⟨hn b hb, (Z.ok.exf b (yex b hb)).1, Z.ok.exfs b (yex b hb), .inl (yex b hb), fun x c z => (Z.ok.exf b (yex b hb)).2 x c z, fun p hp => (ypn hp).elim⟩
  have fF : ∀ {α : Type} {t : Sem α} {P P' : α → Shared → Prop} {E : Value → Shared → Prop} {a : Shared}, wpAny (model Y.prog Y.w) Y.A t P Y.xe a → (∀ r a, P r a → P' r a) → wpAny (model X.prog X.w) X.A t P' E a := fun {α t P P' E a} h k => by
    rw [yP, yw, yA, yx] at h
    exact wpAny_mono h k fun _ _ z => z.elim
  have fG : ∀ {α : Type} {t : Sem α} {P P' : α → Shared → Prop} {E : Value → Shared → Prop} {a : Shared}, wpAny (model X.prog X.w) Y.A t P (fun _ _ => False) a → (∀ r a, P r a → P' r a) → wpAny (model X.prog X.w) X.A t P' E a := fun {α t P P' E a} h k => by
    rw [yA] at h
    exact wpAny_mono h k fun _ _ z => z.elim
  have loop : codeAny (model X.prog X.w) X.A (.compLoop (.DictComp kx vx [⟨tg, it, [], 0⟩, ⟨tg1, it1, [], 0⟩] scope pos) 0 (.ref I0) (.ref D) ce) (compPost (model X.prog X.w) X.A X.xe none (EP X pins σ Q) (.ref D) a3.heap.objs.size) a4 := by
    refine dloop0 (hs1 ce) (fun n a => ∃ i G, Inv Y [] (wipe σ (own.map (·.2))) G a ∧ tn i a.heap ∧ (∀ b ∈ fp, G b = none) ∧ W i n G) ?_ m0 ⟨0, G3, J4, t4, n3, w0⟩
    rintro n a5 ⟨i, G5, J5, t5, n5, w5⟩
    rcases turn i n G5 w5 with ⟨stp, qq⟩ | ⟨go, Nx, hNx, step⟩
    · refine fG (T.done Y yP yw yK yc i [] a5 _ G5 (fun _ _ => False) J5 (st J5 n5) t5 stp) fun r a6 ⟨hr, J6⟩ => ?_
      subst hr
      have J6' : Inv (X.blk a3 G3 scope ce fp) [] (wipe σ (own.map (·.2))) G5 a6 := by rw [eY]; exact J6
      have J7 : Inv X pins σ G5 a6 := J3.call' (ch := fp) J6'.os J6'.base J6'.hok J6'.bare fun b hb => ⟨(f3 b hb).1.2.2.2.1, (f3 b hb).1.2.1, (f3 b hb).1.2.2.2.2.1, (f3 b hb).1.2.2.2.2.2⟩
      have nC : G5 a3.heap.objs.size = none := by
        have z : G5 ce.locals = none := J6'.free
        rw [cL] at z
        exact z
      obtain ⟨m, hm, _⟩ := J6'.loc
      have hm : a6.heap.Ns ce.locals m := hm
      rw [cL] at hm
      refine ⟨m, hm, fun h8 sb => ?_⟩
      obtain ⟨k0, k1, k2, k3, k4, k5⟩ := J3.fpOk (H' := G5) (Nat.le_refl _) nC
      exact ⟨.ref D, G5, J7.turned (t' := a6.toks) (fun b o hb z => (sb.2 b hb).trans z) k0 k1 k3 k4 k5, rfl, qq⟩
    · refine fG (T.item Y yP yw yK yc i [] a5 _ G5 (fun _ _ => False) J5 (st J5 n5) t5 go) fun r a6 ⟨u, hr, h6⟩ => ?_
      subst hr
      refine fG h6 fun _ a7 ⟨x, G7, J7, r7, y7, t7, n7⟩ => ?_
      have P7 := J7.pinned (st J7 n7) (T.obj _ _ t7)
      have rg := bg.run _ a7 _ G7 x u _ P7 r7 (step x G7 y7)
      rw [yE] at rg
      refine fF rg fun _ a8 ⟨σ8, G8, J8, w8, q8⟩ => ?_
      have endT : ∀ {σ9 : L2.St} {a' : Shared} {G' : Hp}, Inv Y ([] ++ pinsAt fp a7.heap) σ9 G' a' → (wipe σ (own.map (·.2))).length = σ9.length → (∀ (j : Nat) v, (wipe σ (own.map (·.2)))[j]? = some (some v) → σ9[j]? = some (some v)) → Nx G' →
          ∃ m, m < n ∧ ∃ i G', Inv Y [] (wipe σ (own.map (·.2))) G' a' ∧ tn i a'.heap ∧ (∀ b ∈ fp, G' b = none) ∧ W i m G' := fun {σ9 a' G'} Z hl hkp nx => by
        obtain ⟨m', hm, w'⟩ := hNx G' nx
        have pn : ∀ b ∈ fp, ∀ o, a7.heap.get? b = some o → a'.heap.get? b = some o ∧ G' b = none := fun b hb o z => let y := Z.pin (b, o) (List.mem_append_right _ (List.mem_append_right _ (mem_pinsAt hb z))); ⟨y.1, y.2.1⟩
        refine ⟨m', hm, i + 1, G', (Z.unpinned (pins := [])).weak hl hkp, T.keep _ _ _ t7 fun b hb o z => (pn b hb o z).1, fun b hb => ?_, w'⟩
        obtain ⟨o, z, _⟩ := T.obj _ _ t7 b hb
        exact (pn b hb o z).2
      have l8 : (wipe σ (own.map (·.2))).length = σ8.length := by rw [← w8, wipe_length]
      have k9 : ∀ (j : Nat) v, (wipe σ (own.map (·.2)))[j]? = some (some v) → (wipe σ8 vs1)[j]? = some (some v) := fun j v z => by
        rw [← w8] at z
        obtain ⟨z1, z2⟩ := wipe_some z
        rw [wipe_out fun y => z2 (hv j y)]
        exact z1
      have ri := bi1.run _ a8 σ8 G8 _ J8 q8
      rw [yE] at ri
      refine fF ri fun xv a10 hx => fF hx fun iv a11 h11 => ?_
      obtain ⟨I1, fp1, tn1, J1, G11, z1, J11, T1, t11, f11, V1, ⟨m1, v1⟩, turn1⟩ := h11
      subst z1
      rw [yP, yw, yK] at T1
      have st1 : ∀ {G' : Hp}, (∀ b ∈ fp1, G' b = none) → ∀ b ∈ fp1, FpOk Y ([] ++ pinsAt fp a7.heap) G' b := fun hn b hb => ⟨hn b hb, (f11 b hb).2⟩
      have inner : codeAny (model X.prog X.w) X.A (.compLoop (.DictComp kx vx [⟨tg, it, [], 0⟩, ⟨tg1, it1, [], 0⟩] scope pos) 1 (.ref I1) (.ref D) ce)
          (fun r a => match r with
            | .ok _ => ∃ m, m < n ∧ ∃ i G', Inv Y [] (wipe σ (own.map (·.2))) G' a ∧ tn i a.heap ∧ (∀ b ∈ fp, G' b = none) ∧ W i m G'
            | .error _ => False) a11 := by
        refine dloop1 (fun k a => ∃ j G', Inv Y ([] ++ pinsAt fp a7.heap) (wipe σ8 vs1) G' a ∧ tn1 j a.heap ∧ (∀ b ∈ fp1, G' b = none) ∧ V1 j k G') ?_ m1 ⟨0, G11, J11.weak (wipe_length _ _) (fun j v z => (wipe_some z).1), t11, fun b hb => (f11 b hb).1, v1⟩
        rintro k a12 ⟨j, G12, J12, t12, n12, v12⟩
        rcases turn1 j k G12 v12 with ⟨stp1, nx1⟩ | ⟨go1, Nx1, hNx1, step1⟩
        · refine fG (T1.done Y yP yw yK yc j _ a12 (wipe σ8 vs1) G12 (fun _ _ => False) J12 (st1 n12) t12 stp1) fun r a13 ⟨hr, J13⟩ => ?_
          subst hr
          exact endT J13 (l8.trans (wipe_length σ8 vs1).symm) k9 nx1
        · refine fG (T1.item Y yP yw yK yc j _ a12 (wipe σ8 vs1) G12 (fun _ _ => False) J12 (st1 n12) t12 go1) fun r a13 ⟨u1, hr, h13⟩ => ?_
          subst hr
          refine fG h13 fun _ a14 ⟨x1, G14, J14, r14, y14, t14, n14⟩ => ?_
          have P14 := J14.pinned (st1 n14) (T1.obj _ _ t14)
          have rg1 := bg1.run _ a14 (wipe σ8 vs1) G14 x1 u1 _ P14 r14 (step1 x1 G14 y14)
          rw [yE] at rg1
          refine fF rg1 fun _ a15 ⟨σ15, G15, J15, w15, q15⟩ => ?_
          have endI : ∀ {a' : Shared} {G' : Hp}, Inv Y (([] ++ pinsAt fp a7.heap) ++ pinsAt fp1 a14.heap) σ15 G' a' → Nx1 G' → ∃ m, m < k ∧ ∃ j G', Inv Y ([] ++ pinsAt fp a7.heap) (wipe σ8 vs1) G' a' ∧ tn1 j a'.heap ∧ (∀ b ∈ fp1, G' b = none) ∧ V1 j m G' := fun {a' G'} Z nx => by
            obtain ⟨m', hm, w'⟩ := hNx1 G' nx
            have pn : ∀ b ∈ fp1, ∀ o, a14.heap.get? b = some o → a'.heap.get? b = some o ∧ G' b = none := fun b hb o z => let y := Z.pin (b, o) (List.mem_append_right _ (List.mem_append_right _ (mem_pinsAt hb z))); ⟨y.1, y.2.1⟩
            refine ⟨m', hm, j + 1, G', Z.unpinned.weak (by rw [← w15, wipe_length]) (fun j v z => by rw [← w15] at z; exact (wipe_some z).1), T1.keep _ _ _ t14 fun b hb o z => (pn b hb o z).1, fun b hb => ?_, w'⟩
            obtain ⟨o, z, _⟩ := T1.obj _ _ t14 b hb
            exact (pn b hb o z).2
          have rk := bk.run _ a15 σ15 G15 _ J15 q15
          rw [yE] at rk
          refine fF rk fun kv a16 ⟨yk, G16, J16, r16, q16⟩ => ?_
          have re := be.run _ a16 σ15 G16 _ J16 q16
          rw [yE] at re
          refine fF re fun vv a17 ⟨yv, G17, J17, r17, kvs, key, ek, hD17, hz17, nx⟩ => ?_
          subst ek
          have dd := d_dictSet (E := fun _ _ => False) (Q := fun _ a' => ∃ m, m < k ∧ ∃ j G', Inv Y ([] ++ pinsAt fp a7.heap) (wipe σ8 vs1) G' a' ∧ tn1 j a'.heap ∧ (∀ b ∈ fp1, G' b = none) ∧ V1 j m G') J17 hD17 hz17 r16 r17 fun a18 J18 => endI J18 nx
          rw [yP, yw] at dd
          exact fG dd fun _ _ z => z
      exact dstart1 inner (T1.self X.A 0 _ _ _ t11 inner)
  exact codeAny_compStart_dict loop (T.self X.A 0 _ _ _ t4 loop)
end
end Mi
end
section
namespace Mi
open PySem PySem.Spec L2
theorem merge_snoc {ps : List (D × D)} {p : D × D} : mergeD [] (ps ++ [p]) = putD (mergeD [] ps) p.1 p.2 := by
  unfold mergeD
  rw [List.foldl_append]
  rfl
def AKr (K : PySem.W.Frag) (O : Addr → Prop) (H : Hp) (u : HO) (ps : List (D × D)) : Prop :=
  ∃ kvs : List (Key × V), u = .dK kvs ∧ (mergeD [] ps).map (·.1) = kvs.map (fun p => keyD p.1) ∧ RpL K O H (kvs.map (·.2)) ((mergeD [] ps).map (·.2)) ∧ kvs.length ≤ ps.length
def acK (K : PySem.W.Frag) : Ac K (D × D) where
  AR := AKr K
  Lim := fun ps => ps.length ≤ sizeLine ∧ (ps.all fun p => flatK p.1) = true
  mono := fun m h => by
    obtain ⟨kvs, e, h1, h2, h3⟩ := h
    exact ⟨kvs, e, h1, RpL.mono m h2, h3⟩
  ct := fun h => by
    obtain ⟨kvs, e, _⟩ := h
    subst e
    rfl
  pre := fun {a b} h => by
    obtain ⟨h1, h2⟩ := h
    rw [List.all_append, Bool.and_eq_true] at h2
    simp only [List.length_append] at h1
    exact ⟨by omega, h2.1⟩
section
variable {R : Rt} {D : Addr} {ck cv : CE}
theorem turn_dc : TurnOk R (acK R.K) D (fun ρ => (evE R.cf ck ρ).bind fun x ρ1 => (evE R.cf cv ρ1).bind fun y ρ2 => .ok [(x.2, y.2)] ρ2)
    (fun Nx σ H => tE R W0 ck σ H fun y H4 => tE R W0 cv σ H4 fun z H5 => addK D Nx y z H5) := by
  intro Nx σ H O ρ u ys zs ρ2 S oD nw hD ar lim ef k
  dsimp only at ef
  refine ⟨O, ρ, S, ?_⟩
  cases e : evE R.cf ck ρ with
  | bad => rw [e] at ef; cases ef
  | exc _ _ => rw [e] at ef; cases ef
  | ok x ρ1 =>
    rw [e] at ef
    have ef : ((evE R.cf cv ρ1).bind fun y ρ2 => Out.ok [(x.2, y.2)] ρ2) = .ok zs ρ2 := ef
    intro O1 H1 S1 T1 v rv
    obtain ⟨O1, S1, T1, r1, _⟩ := give S1 T1 rv
    refine ⟨O1, ρ1, S1, ?_⟩
    cases e2 : evE R.cf cv ρ1 with
    | bad => rw [e2] at ef; cases ef
    | exc _ _ => rw [e2] at ef; cases ef
    | ok y ρ3 =>
      rw [e2] at ef
      cases ef
      intro O2 H2 S2 T2 w rw'
      obtain ⟨O2, S2, T2, r2, _⟩ := give S2 T2 rw'
      have T := T1.trans T2
      obtain ⟨oD', hD', nw'⟩ := T.at oD hD nw
      obtain ⟨kvs, rfl, a1, a2, a3⟩ := ar
      have r1' := r1.mono (S1.mono T2)
      obtain ⟨l1, l2⟩ := (show (ys ++ [(x.2, y.2)]).length ≤ sizeLine ∧ ((ys ++ [(x.2, y.2)]).all fun p => flatK p.1) = true from lim)
      rw [List.all_append, Bool.and_eq_true] at l2
      have fx : flatK x.2 = true := by simpa using l2.2
      obtain ⟨key, rfl, ek⟩ := kV_of r1'.rq fx
      have a2' := a2.mono (S.mono T)
      obtain ⟨b1, b2⟩ := put_of (fun _ _ => keyEq_k) key a1 a2' r2
      rw [← ek] at b1 b2
      simp only [List.length_append, List.length_singleton] at l1
      obtain ⟨S3, T3, m3⟩ := S2.poke oD' hD' rfl nw' (u' := .dK (putK kvs key w)) rfl
      refine ⟨kvs, key, rfl, hD', by omega, k O2 _ _ S3 ((Step.unhid T fun _ _ => trivial).hid2 T3) oD' nw' upd_same ⟨_, rfl, ?_, ?_, ?_⟩⟩
      · rw [merge_snoc]; exact b1
      · rw [merge_snoc]; exact b2.mono m3
      · have := length_putK kvs key w
        simp only [List.length_append, List.length_singleton]
        omega
end
section
variable {X : Cx} {R : Rt} {W : WX}
theorem dictF_of {ps : List (D × D)} {r : Rs} (h : dictF ps = some r) : (ps.all fun p => flatK p.1) = true ∧ r = (true, .dict (mergeD [] ps)) := by
  unfold dictF at h
  split at h
  · rename_i q; cases h; exact ⟨q, rfl⟩
  · cases h
theorem turns_len2 {α : Type} {f : Env → Out (List α)} {T : Tg} {vs : List Nat} (hf : ∀ ρ ys ρ', f ρ = .ok ys ρ' → ys.length ≤ 1) : ∀ (xs : List D) (ρ : Env) (zs : List α) (ρ2 : Env), turns T vs f xs ρ = .ok zs ρ2 → zs.length ≤ xs.length
  | [], ρ, zs, ρ2, h => by cases h; exact Nat.le_refl _
  | x :: r, ρ, zs, ρ2, h => by
    unfold turns at h
    split at h
    · cases h
    · split at h
      · rename_i e
        split at h
        · rename_i e2
          cases h
          have h1 := hf _ _ _ e
          have h2 := turns_len2 hf r _ _ _ e2
          simp only [List.length_append, List.length_cons]
          omega
        · cases h
      · cases h
theorem f_dc {ck cv : CE} : ∀ (ρ : Env) (ys : List (D × D)) (ρ' : Env), ((evE R.cf ck ρ).bind fun x ρ1 => (evE R.cf cv ρ1).bind fun y ρ2 => Out.ok [(x.2, y.2)] ρ2) = .ok ys ρ' → ys.length ≤ 1 := fun ρ ys ρ' h => by
  cases e : evE R.cf ck ρ with
  | bad => rw [e] at h; cases h
  | exc _ _ => rw [e] at h; cases h
  | ok r ρ2 =>
    rw [e] at h
    have h : ((evE R.cf cv ρ2).bind fun y ρ2 => Out.ok [(r.2, y.2)] ρ2) = .ok ys ρ' := h
    cases e2 : evE R.cf cv ρ2 with
    | bad => rw [e2] at h; cases h
    | exc _ _ => rw [e2] at h; cases h
    | ok _ _ => rw [e2] at h; cases h; exact Nat.le_refl _
theorem le_dc {ck cv cit : CE} {vs : List Nat} {T : Tg} {σ : L2.St} {H : Hp} {Q : VK} (hv : ∀ i ∈ tgL T, i ∈ vs) (h : tE R W (.dc vs ck cv T cit) σ H Q) : tDc (tI R W cit) (gOf R.K T) tYes (tE R W0 ck) (tE R W0 cv) vs σ H Q := by
  obtain ⟨O, ρ, S, A⟩ := h
  rw [evE] at A
  refine ⟨O, ρ, S, A.bind fun xl ρ1 O1 H1 S1 T1 A1 J w => ?_⟩
  split at A1
  · rename_i hl
    cases eb : blkV vs T (fun ρ => (evE R.cf ck ρ).bind fun x ρ1 => (evE R.cf cv ρ1).bind fun y ρ2 => .ok [(x.2, y.2)] ρ2) xl ρ1 with
    | bad => rw [eb] at A1; exact A1.elim
    | exc _ _ => exact (blkV_exc eb).elim
    | ok ps ρ3 =>
      rw [eb] at A1
      have A1 : Ans R W σ O H ρ (lift (dictF ps) ρ3) _ := A1
      obtain ⟨r, er, A2⟩ := A1.lift
      obtain ⟨fl, rfl⟩ := dictF_of er
      have lim : (acK R.K).Lim ps := by
        refine ⟨?_, fl⟩
        unfold blkV at eb
        split at eb
        · rename_i e
          cases eb
          exact Nat.le_trans (turns_len2 f_dc _ _ _ _ e) hl
        · cases eb
      exact blk_new (ac := acK R.K) (u0 := .dK []) (fun D => turn_dc (D := D)) hv S1 w eb lim (fun O H => ⟨[], rfl, rfl, .nil, Nat.le_refl _⟩) fun D O' H' u' hD S' T' oD' nw' hD' ⟨kvs, e, a1, a2, _⟩ => by
        subst e
        exact A2 O' H' S' (T1.trans T') _ (RR.new oD' (T1.none hD) nw' hD' (.dk a1 a2))
  · exact A1.elim
theorem turn_2k {ck cv cit2 : CE} {vs2 : List Nat} {T2 : Tg} {D : Addr} (hv : ∀ i ∈ tgL T2, i ∈ vs2) : TurnOk R (acK R.K) D (fun ρ => (evI R.cf cit2 ρ).bind fun xl2 ρ' => blkV vs2 T2 (fun ρ => (evE R.cf ck ρ).bind fun x ρ1 => (evE R.cf cv ρ1).bind fun y ρ2 => .ok [(x.2, y.2)] ρ2) xl2 ρ')
    (fun Nx σ H => tI R W0 cit2 σ H (fun J1 H4 => LoopR J1 Nx (fun Nx1 x H' => gOf R.K T2 x (L2.wipe σ vs2) H' fun σ3 H5 => L2.wipe σ3 vs2 = L2.wipe σ vs2 ∧ tE R W0 ck σ3 H5 fun y H6 => tE R W0 cv σ3 H6 fun z H7 => addK D Nx1 y z H7) H4)) := by
  intro Nx σ H O ρ u ys zs ρ2 S oD nw hD ar lim ef k
  exact turn_2 (ac := acK R.K) (D := D) turn_dc hv Nx σ H O ρ u ys zs ρ2 S oD nw hD ar lim ef k
theorem le_dc2 {ck cv cit cit2 : CE} {vs vs2 : List Nat} {T T2 : Tg} {σ : L2.St} {H : Hp} {Q : VK} (hv : ∀ i ∈ tgL T, i ∈ vs) (hv2 : ∀ i ∈ tgL T2, i ∈ vs2) (h : tE R W (.dc2 vs vs2 ck cv T cit T2 cit2) σ H Q) :
    tDc2 (tI R W cit) (gOf R.K T) (tI R W0 cit2) (gOf R.K T2) (tE R W0 ck) (tE R W0 cv) vs vs2 σ H Q := by
  obtain ⟨O, ρ, S, A⟩ := h
  rw [evE] at A
  refine ⟨O, ρ, S, A.bind fun xl ρ1 O1 H1 S1 T1 A1 J w => ?_⟩
  cases eb : blkV vs T (fun ρ => (evI R.cf cit2 ρ).bind fun xl2 ρ' => blkV vs2 T2 (fun ρ => (evE R.cf ck ρ).bind fun x ρ1 => (evE R.cf cv ρ1).bind fun y ρ2 => .ok [(x.2, y.2)] ρ2) xl2 ρ') xl ρ1 with
  | bad => rw [eb] at A1; exact A1.elim
  | exc _ _ => exact (blkV_exc eb).elim
  | ok ps ρ3 =>
    rw [eb] at A1
    have A1 : Ans R W σ O H ρ (if ps.length ≤ sizeLine then lift (dictF ps) ρ3 else .bad) _ := A1
    split at A1
    · rename_i hl
      obtain ⟨r, er, A2⟩ := A1.lift
      obtain ⟨fl, rfl⟩ := dictF_of er
      exact blk_new (ac := acK R.K) (u0 := .dK []) (fun D => turn_2k (D := D) hv2) hv S1 w eb ⟨hl, fl⟩ (fun O H => ⟨[], rfl, rfl, .nil, Nat.le_refl _⟩) fun D O' H' u' hD S' T' oD' nw' hD' ⟨kvs, e, a1, a2, _⟩ => by
        subst e
        exact A2 O' H' S' (T1.trans T') _ (RR.new oD' (T1.none hD) nw' hD' (.dk a1 a2))
    · exact A1.elim
variable {kx vx tg iter tg2 iter2 : Expr} {ck cv cit cit2 : CE} {scope : Scope} {own : List (Str × Nat)} {vs2 : List Nat} {pos : Pos} {T T2 : Tg}
theorem me_dc (hc : X.calm = true) (hN : X.N.Nodup) (hi : PI X tg iter (tI R W cit)) (ok : BlkOk X.N X.env.scope scope own) (hv : ∀ i ∈ tgL T, i ∈ own.map (·.2)) (hg : AllBlk X scope fun Y => PG Y tg (gOf R.K T))
    (hk : AllBlk X scope fun Y => PE Y kx (tE R W0 ck)) (he : AllBlk X scope fun Y => PE Y vx (tE R W0 cv)) (hs : ∀ x, foldedSetIterable iter X.env x = pure x) : PE X (.DictComp kx vx [⟨tg, iter, [], 0⟩] scope pos) (tE R W (.dc (own.map (·.2)) ck cv T cit)) :=
  pe_wk (pe_dc hc hN hi ok hg (fun _ _ _ _ _ => pts_nil) hk he hs) fun _ _ _ h => le_dc hv h
theorem me_dc2 (hc : X.calm = true) (hN : X.N.Nodup) (hi : PI X tg iter (tI R W cit)) (ok : BlkOk X.N X.env.scope scope own) (hv : ∀ i ∈ tgL T, i ∈ own.map (·.2)) (hv2 : ∀ i ∈ tgL T2, i ∈ vs2) (hw : ∀ i ∈ vs2, i ∈ own.map (·.2))
    (hg : AllBlk X scope fun Y => PG Y tg (gOf R.K T)) (hi2 : AllBlk X scope fun Y => PI Y tg2 iter2 (tI R W0 cit2)) (hg2 : AllBlk X scope fun Y => PG Y tg2 (gOf R.K T2)) (hk : AllBlk X scope fun Y => PE Y kx (tE R W0 ck)) (he : AllBlk X scope fun Y => PE Y vx (tE R W0 cv))
    (hs : ∀ x, foldedSetIterable iter X.env x = pure x) (hs2 : ∀ env x, foldedSetIterable iter2 env x = pure x) : PE X (.DictComp kx vx [⟨tg, iter, [], 0⟩, ⟨tg2, iter2, [], 0⟩] scope pos) (tE R W (.dc2 (own.map (·.2)) vs2 ck cv T cit T2 cit2)) :=
  pe_wk (pe_dc2 hc hN hi ok hw hg hi2 hg2 hk he hs hs2) fun _ _ _ h => le_dc2 hv hv2 h
end
end Mi
end
section
namespace Mi
open PySem PySem.Spec L2
theorem strsD_L {K : PySem.W.Frag} {O : Addr → Prop} {H : Hp} : ∀ {vs : List V} {ds : List D} {xs : List Str}, RpL K O H vs ds → strsD ds = some xs → vs = xs.map V.str
  | _, _, xs, .nil, e => by cases e; rfl
  | _, _, xs, @RpL.cons _ _ _ v d vs ds h r, e => by
    cases d with
    | str z =>
      obtain ⟨ys, hy, rfl⟩ := Option.map_eq_some_iff.mp (show (strsD ds).map (z :: ·) = some xs from e)
      rw [h.rq.str, strsD_L r hy]
      rfl
    | _ => cases e
section
variable {X : Cx} {R : Rt} {W : WX} {a : Expr} {ca : CE} {p p2 q pos : Pos}
theorem pe_lset {ta : TE} (hc : X.calm = true) (hg : Gl X "len") (hm : X.mg "len" = none) (hg2 : Gl X "set") (hm2 : X.mg "set" = none) (ha : PE X a ta) (hp : plainE a = true) :
    PE X (.Call (.Name "len" p) [.Call (.Name "set" p2) [a] [] q] [] pos) (fun σ H Q => ta σ H fun x H1 => ∃ l, ∃ xs : List Str, x = .ref l ∧ (SqL X.K H1 l (xs.map V.str) ∨ SqT X.K H1 l (xs.map V.str)) ∧ xs.length ≤ 4000 ∧ Q (.int (ddS xs).length) H1) := by
  refine ⟨fun pins s σ H Q I h => ?_⟩
  have na := star1 (env := X.env) hp
  refine PyProof.Rows.Call_ (ld_blt I hg hm PySem.boot_len ?_)
  refine PyProof.Rows.callWith_builtin1 (PyProof.Rows.args_cons ?_ rfl) rfl rfl
  refine PyProof.Rows.Call_ (ld_blt I hg2 hm2 PyProof.Rows.boot_set ?_)
  refine PyProof.Rows.callWith_type1 (PyProof.Rows.args_cons (thn (ha.run pins s σ H _ I h) fun v s1 ⟨x, H1, I1, r1, q1⟩ => PyProof.Rows.args_nil ?_) na) na rfl
  obtain ⟨l, xs, rfl, hq, hlen, q1⟩ := q1
  cases r1
  have bd : xs.length + 1 < scanBound := by unfold scanBound; omega
  have fin : ∀ (g : Heap) (tk : Nat), g.SetOf (PySem.strKind X.prog X.w) s1.heap.objs.size (fun z => (ddS xs).any (· == z)) (ddS xs).length → (∀ b o, b < s1.heap.objs.size → s1.heap.get? b = some o → g.get? b = some o) →
      wpAny (model X.prog X.w) X.A (spliced (backTo pos (starEach [] X.env))) (fun vs s2 => wpAny (model X.prog X.w) X.A (call (.builtin "len") (Value.ref s1.heap.objs.size :: vs)) (EP X pins σ Q) X.xe s2) X.xe { s1 with heap := g, toks := tk } := fun g tk hS hk => by
    refine PyProof.Rows.args_nil ?_
    obtain ⟨o, es, ep, t, ho, hex, hd, _, _, _, hf, hn⟩ := hS
    have I2 : Inv X pins σ H1 { s1 with heap := g, toks := tk } := I1.kept fun b o e => hk b o (Heap.lt_size e) e
    have := ddS_le xs
    exact call_len_set ho hex hd hf (by rw [hn]; omega) ⟨.int (ddS xs).length, H1, I2.tok _, ⟨_, by rw [hn]⟩, q1⟩
  rcases hq with hq | hq
  · obtain ⟨its, r, pl, hz⟩ := I1.list hq
    exact set_of_list (I1.ok.hd hc) pl.isList (by simpa using strsAre_of r) bd fin
  · obtain ⟨its, r, pl, hz⟩ := I1.tuple hq
    exact set_of_tuple (I1.ok.hd hc) pl (by simpa using strsAre_of r) bd fin
theorem me_lset (hK : X.K = R.K) (hc : X.calm = true) (hg : Gl X "len") (hm : X.mg "len" = none) (hg2 : Gl X "set") (hm2 : X.mg "set" = none) (ha : PE X a (tO R W ca)) (hp : plainE a = true) :
    ME X R W (.Call (.Name "len" p) [.Call (.Name "set" p2) [a] [] q] [] pos) (.b1 .lenset ca) := by
  refine ME.of (pe_lset hc hg hm hg2 hm2 ha hp) (fun σ H Q ⟨O, ρ, S, A⟩ => ?_) (by intro _; rfl)
  rw [evE] at A
  refine ⟨O, ρ, S, A.bind fun o1 ρ1 O1 H1 S1 T1 A1 x hx => ?_⟩
  obtain ⟨r, e, A3⟩ := A1.lift
  obtain ⟨d1, e1, e2⟩ := Option.bind_eq_some_iff.mp e
  have hq := hx.rq S1 e1
  obtain ⟨n, e3, rfl⟩ := Option.map_eq_some_iff.mp (show (lensetD d1).map (fun (n : Nat) => ((false, .int (n : Int)) : Rs)) = some r from e2)
  obtain ⟨xs, e4, e5⟩ := Option.bind_eq_some_iff.mp e3
  split at e5
  · rename_i hl
    cases e5
    have fin := A3 O1 H1 S1 T1 (.int (ddS xs).length) (RR.val (.int _))
    rw [hK]
    cases d1 with
    | list ds =>
      obtain ⟨l, zs, rfl, hz, rz⟩ := hq.list
      exact ⟨l, xs, rfl, .inl (.of (by rw [← strsD_L rz e4]; exact hz)), hl, fin⟩
    | tuple ds =>
      obtain ⟨l, zs, rfl, hz, rz⟩ := hq.tup
      exact ⟨l, xs, rfl, .inr (.of (by rw [← strsD_L rz e4]; exact hz)), hl, fin⟩
    | _ => cases e4
  · cases e5
end
end Mi
end
section
namespace Mi
open PySem PySem.Spec L2
def compDc (f : Cmp) (c : Ctx) (scope : Scope) (vx : Expr) : LcP → Option CE
  | .one kx tg it => (compBlk f c scope tg it).bind fun (T, ci) => comp2 (f (c.blk scope)) kx vx fun x y => .dc ((ownOf c.N scope).map (·.2)) x y T ci
  | .flt _ _ _ _ => none
  | .two kx tg it tg2 it2 => (compBlk f c scope tg it).bind fun (T, ci) => if notSet it2 = true then (compT (c.blk scope) tg2).bind fun T2 => if subL (tgL T2) ((ownOf c.N scope).map (·.2)) = true then
      (compI f (c.blk scope) tg2 it2).bind fun ci2 => comp2 (f (c.blk scope)) kx vx fun x y => .dc2 ((ownOf c.N scope).map (·.2)) (tgL T2) x y T ci T2 ci2 else none else none
section
variable {f : Cmp} {c : Ctx} {ce : CE} {X : Cx} {R : Rt} {W : WX} {kx vx : Expr} {gens : List Comprehension} {scope : Scope} {pos : Pos} {lp : LcP}
theorem isVar_dc (h : compDc f c scope vx lp = some ce) : isVar ce = false := by
  cases lp with
  | one e tg it =>
    obtain ⟨⟨T, ci⟩, _, h⟩ := Option.bind_eq_some_iff.mp h
    obtain ⟨x, y, _, _, rfl⟩ := comp2_of h
    rfl
  | flt e tg it cond => cases h
  | two e tg it tg2 it2 =>
    obtain ⟨⟨T, ci⟩, _, h⟩ := Option.bind_eq_some_iff.mp h
    dsimp only at h
    split at h
    · obtain ⟨T2, _, h⟩ := Option.bind_eq_some_iff.mp h
      split at h
      · obtain ⟨ci2, _, h⟩ := Option.bind_eq_some_iff.mp h
        obtain ⟨x, y, _, _, rfl⟩ := comp2_of h
        rfl
      · cases h
    · cases h
theorem dc_ok (sf : Snd f) (g : Good X R W c) (hl : lcOf kx gens = some lp) (h : compDc f c scope vx lp = some ce) : PE X (.DictComp kx vx gens scope pos) (tE R W ce) := by
  have q := lcOf_of hl
  have nd : X.N.Nodup := by rw [g.hN]; exact g.nd
  cases lp with
  | one e tg it =>
    obtain ⟨rfl, rfl⟩ := q
    obtain ⟨⟨T, ci⟩, hb, h⟩ := Option.bind_eq_some_iff.mp h
    obtain ⟨x, y, hx, hy, rfl⟩ := comp2_of h
    have B := compBlk_of hb
    exact me_dc g.calm nd (compI_ok sf B.hi X R W g) (blkOk_of g B.blk) (subL_of B.hv) (fun s H C cl fp => pg_ok (g.blk s H C cl fp) B.ht) (fun s H C cl fp => (sf _ _ _ hx _ R W0 (g.blk s H C cl fp)).me.pe) (fun s H C cl fp => (sf _ _ _ hy _ R W0 (g.blk s H C cl fp)).me.pe) (fold_of B.hs _)
  | flt e tg it cond => cases h
  | two e tg it tg2 it2 =>
    obtain ⟨rfl, rfl⟩ := q
    obtain ⟨⟨T, ci⟩, hb, h⟩ := Option.bind_eq_some_iff.mp h
    have B := compBlk_of hb
    dsimp only at h
    split at h
    · rename_i hs2
      obtain ⟨T2, hT2, h⟩ := Option.bind_eq_some_iff.mp h
      split at h
      · rename_i hv2
        obtain ⟨ci2, hi2, h⟩ := Option.bind_eq_some_iff.mp h
        obtain ⟨x, y, hx, hy, rfl⟩ := comp2_of h
        exact me_dc2 g.calm nd (compI_ok sf B.hi X R W g) (blkOk_of g B.blk) (subL_of B.hv) (fun i h => h) (subL_of hv2) (fun s H C cl fp => pg_ok (g.blk s H C cl fp) B.ht) (fun s H C cl fp => compI_ok sf hi2 _ R W0 (g.blk s H C cl fp))
          (fun s H C cl fp => pg_ok (g.blk s H C cl fp) hT2) (fun s H C cl fp => (sf _ _ _ hx _ R W0 (g.blk s H C cl fp)).me.pe) (fun s H C cl fp => (sf _ _ _ hy _ R W0 (g.blk s H C cl fp)).me.pe) (fold_of B.hs _) (fun env => fold_of hs2 env)
      · cases h
    · cases h
def nestOf : Expr → Option (Str × Str × Expr)
  | .Call (.Name x _) [.Call (.Name y _) [a] [] _] [] _ => some (x, y, a)
  | _ => none
theorem nest_of {e : Expr} {x y : Str} {a : Expr} (h : nestOf e = some (x, y, a)) : ∃ p q r pos, e = .Call (.Name x p) [.Call (.Name y q) [a] [] r] [] pos := by
  unfold nestOf at h
  split at h
  · cases h; exact ⟨_, _, _, _, rfl⟩
  · cases h
theorem rg_rp {K : PySem.W.Frag} {O : Addr → Prop} {H : Hp} (i : Int) : RpL K O H (rgV 0 i) (rngD 0 i.toNat) := by
  unfold rgV rngD
  rw [Int.sub_zero]
  generalize List.range i.toNat = l
  induction l with
  | nil => exact .nil
  | cons x r ih => exact .cons (.int _) ih
theorem me_lrng {a : Expr} {ca : CE} {p q r pos : Pos} (hc : X.calm = true) (hg : Gl X "list") (hm : X.mg "list" = none) (hg2 : Gl X "range") (hm2 : X.mg "range" = none) (ha : PE X a (tE R W ca)) (hp : plainE a = true) :
    ME X R W (.Call (.Name "list" p) [.Call (.Name "range" q) [a] [] r] [] pos) (.lrng ca) := by
  refine ME.of (pe_listRg hc hg hm (prg_1 hg2 hm2 ha (star1 hp)) (by rfl)) (fun σ H Q ⟨O, ρ, S, A⟩ => ?_) (by intro _; rfl)
  rw [evE] at A
  refine tE_val S (A.bind fun r1 ρ1 O1 H1 S1 T1 A1 O1 S1 T1 x hx => ?_)
  obtain ⟨rs, e, A2⟩ := A1.lift
  obtain ⟨i, ei, e2⟩ := Option.bind_eq_some_iff.mp e
  split at e2
  · rename_i ok
    cases e2
    obtain ⟨fl, d⟩ := r1
    cases d with
    | int j =>
      cases ei
      have b := rngOk_of ok.1
      have hz : i.toNat ≤ 2 ^ 24 := by
        have := ok.2
        rw [sizeLine_eq] at this
        exact this
      refine ⟨i, hx.rq.int, ⟨by omega, by omega, b.1, b.2, by rw [Int.sub_zero]; exact hz⟩, fun l hl => ?_⟩
      obtain ⟨S2, T2, m, nw⟩ := S1.layO (u := .lst (rgV 0 i)) hl rfl
      exact A2 _ _ S2 (T1.trans T2) _ (RR.new (.inr rfl) (T1.none hl) nw upd_same (.lst (rg_rp i)))
    | _ => cases ei
  · cases e2
def compNest (f : Cmp) (c : Ctx) (e : Expr) : Option CE := (nestOf e).bind fun (x, y, a) =>
  if x = "len" ∧ y = "set" ∧ okN c "len" = true ∧ okN c "set" = true ∧ plainE a = true then (f c a).map (.b1 .lenset) else
  if x = "list" ∧ y = "range" ∧ okN c "list" = true ∧ okN c "range" = true ∧ plainE a = true then (f c a).map .lrng else none
theorem nest_ok (sf : Snd f) {e : Expr} (h : compNest f c e = some ce) : EOk c e ce := by
  intro X R W g
  obtain ⟨⟨x, y, a⟩, hn, h⟩ := Option.bind_eq_some_iff.mp h
  dsimp only at h
  split at h
  · rename_i hh
    obtain ⟨rfl, rfl, h1, h2, hp⟩ := hh
    obtain ⟨z, hz, rfl⟩ := Option.map_eq_some_iff.mp h
    obtain ⟨p, q, r, pos, rfl⟩ := nest_of hn
    exact SE.of (me_lset g.hK g.calm (okN_of g h1).1 (g.blt "len" (by decide +kernel)) (okN_of g h2).1 (g.blt "set" (by decide +kernel)) (sf c a z hz X R W g).mo hp) rfl
  split at h
  · rename_i hh
    obtain ⟨rfl, rfl, h1, h2, hp⟩ := hh
    obtain ⟨z, hz, rfl⟩ := Option.map_eq_some_iff.mp h
    obtain ⟨p, q, r, pos, rfl⟩ := nest_of hn
    exact SE.of (me_lrng g.calm (okN_of g h1).1 (g.blt "list" (by decide +kernel)) (okN_of g h2).1 (g.blt "range" (by decide +kernel)) (sf c a z hz X R W g).me.pe hp) rfl
  · cases h
end
def stgD (f : Cmp) : Cmp := fun c e => match e with
  | .DictComp kx vx gens scope _ => (lcOf kx gens).bind fun lp => compDc f c scope vx lp
  | e => compNest f c e
theorem stgD_ok {f : Cmp} (sf : Snd f) : Snd (stgD f) := by
  intro c e ce h
  have K : compNest f c e = some ce → EOk c e ce := fun h => nest_ok sf h
  cases e with
  | DictComp kx vx gens scope pos =>
    obtain ⟨lp, hl, h⟩ := Option.bind_eq_some_iff.mp (show ((lcOf kx gens).bind fun lp => compDc f c scope vx lp) = some ce from h)
    exact fun X R W g => SE.of' (dc_ok sf g hl h) (isVar_dc h) (by intro _; rfl)
  | _ => exact K h
end Mi
end
section
namespace Mi
open PySem PySem.Spec L2
def notComp : Expr → Bool
  | .ListComp _ _ _ _ => false
  | .SetComp _ _ _ _ => false
  | .DictComp _ _ _ _ _ => false
  | _ => true
theorem swaps_of {e : Expr} {t : Option Expr} {n : Nat} {env : PySem.Env} (h : notComp e = true) : swapsWith e t n env = pure false := by
  cases e <;> first | rfl | cases h
theorem sole_of {e t : Expr} {n : Nat} {env : PySem.Env} (h : notComp e = true) : swapsWithSole [t] e n env = pure false := by
  unfold swapsWithSole
  exact swaps_of h
def notTup : Expr → Bool
  | .Tuple _ _ _ => false
  | .List _ _ => false
  | _ => true
theorem swapped_of {ts : List Expr} {k : Nat} {p : Pos} {e : Expr} {env : PySem.Env} (h : notTup e = true) : swappedStores [.Tuple ts k p] e env = pure none := by
  cases e <;> first | (cases h; done) | rfl
theorem swappedSub {o k e : Expr} {p : Pos} {env : PySem.Env} : swappedStores [.Subscript o k p] e env = pure none := by
  cases e <;> rfl
def isLoc : Option NameKind → Bool
  | some .local => true
  | _ => false
def oneLine (c : Ctx) (y : Str) (py : Pos) (scope : Scope) (vp : Pos) : Bool := isLoc (c.sc.names.lookup y) && (py.line == vp.line) && !(scope.names.any fun z => z.1 == y && (z.2 == .local || z.2 == .cell))
def fnKind : ScopeKind → Bool
  | .function => true
  | _ => false
structure GoodS (X : Cx) (R : Rt) (W : WX) (c : Ctx) : Prop where
  g : Good X R W c
  hp : PassesOwn (model X.prog X.w) X.A X.env X.xe
  kind : c.sc.kind = .function
def SOk (c : Ctx) (st : Stmt) (cs : CS) : Prop := ∀ X R W, GoodS X R W c → PS X st (tS R W cs)
def SsOk (c : Ctx) (st : List Stmt) (cs : List CS) : Prop := ∀ X R W, GoodS X R W c → PSs X st (tSs R W cs)
abbrev CmpS := Ctx → Stmt → Option CS
def SndS (f : CmpS) : Prop := ∀ c e ce, f c e = some ce → SOk c e ce
def compSs (f : Stmt → Option CS) : List Stmt → Option (List CS)
  | [] => some []
  | s :: ss => (f s).bind fun x => (compSs f ss).map (x :: ·)
theorem ss_ok {f : CmpS} (sf : SndS f) {c : Ctx} : ∀ {ss : List Stmt} {cs : List CS}, compSs (f c) ss = some cs → SsOk c ss cs
  | [], cs, h => by cases h; exact fun X R W g => mss_nil
  | s :: ss, cs, h => by
    obtain ⟨x, hx, h⟩ := Option.bind_eq_some_iff.mp h
    obtain ⟨xs, hxs, rfl⟩ := Option.map_eq_some_iff.mp h
    exact fun X R W g => mss_cons (sf c s x hx X R W g) (ss_ok sf hxs X R W g)
def varOf : CE → Option Nat
  | .var i => some i
  | _ => none
theorem varOf_of {c : CE} {i : Nat} (h : varOf c = some i) : c = .var i := by
  cases c <;> cases h
  rfl
def methOf : Expr → Option (Expr × Str × List Expr × Bool)
  | .Call (.Attribute (.Name x p) m apos) args [] cpos => some (.Name x p, m, args, apos.endLine == cpos.line)
  | _ => none
def isDoc : Expr → Bool
  | .Constant (.str _) _ _ => true
  | _ => false
def compExp (f : Cmp) (c : Ctx) (e : Expr) : Option CS :=
  if isDoc e = true then some .pas else
  match methOf e with
  | some (o, m, [a], true) => if m = "append" ∧ plainE a = true then (f c o).bind fun x => (varOf x).bind fun i => (f c a).map fun y => .app i y else none
  | _ => if notComp e = true then (f c e).map .exp else none
def compAsg (f : Cmp) (c : Ctx) (t e : Expr) : Option CS :=
  match t with
  | .Name y py => if tgOk c y = true then (ixOf c.N y).bind fun i => if notComp e = true then (f c e).map (.asg i) else match e with
      | .ListComp elt gens scope vp => if oneLine c y py scope vp = true then (lcOf elt gens).bind fun lp => (compLc f c scope lp).map (.asg i) else none
      | _ => none
      else none
  | .Tuple es k p => if notTup e = true ∧ notComp e = true then (compTs c es).bind fun is => (f c e).map (.asgT is) else none
  | .Subscript o k p => if noSlice k = true ∧ notComp e = true then (f c o).bind fun x => (varOf x).bind fun i => (f c k).bind fun y => (f c e).map fun z => .sub i y z else none
  | _ => none
def compRet (f : Cmp) (c : Ctx) (e : Expr) : Option CS := (f c e).bind fun x => match varOf x with
  | some i => some (.ret (.var i))
  | none => if isVar x = false then some (.ret x) else none
def stgS (f : Cmp) (r : CmpS) : CmpS := fun c st => match st with
  | .Pass _ => some .pas
  | .Break _ => some .brk
  | .Expr e _ => compExp f c e
  | .Return none _ => some .retN
  | .Return (some e) _ => compRet f c e
  | .Assign [t] e _ => compAsg f c t e
  | .If t a b _ => (f c t).bind fun x => (compSs (r c) a).bind fun y => (compSs (r c) b).map fun z => .ite x y z
  | .For tg it b [] _ => if notSet it = true then (compT c tg).bind fun T => (compI f c tg it).bind fun x => (compSs (r c) b).map fun y => .for T x y else none
  | .While t b [] _ => (f c t).bind fun x => (compSs (r c) b).map fun y => .whl x y
  | .Raise _ none _ => some (.rais "" [])
  | _ => none
section
variable {f : Cmp} {r : CmpS} {c : Ctx} {cs : CS} {e t : Expr} {pos : Pos}
theorem rais_ok {st : Stmt} : SOk c st (.rais "" []) := fun X R W g => ps_wk ps_never fun D σ H ⟨O, ρ, S, A⟩ => by
  rw [evS] at A
  · exact A.elim
  all_goals (intros; contradiction)
theorem meth_of {o : Expr} {m : Str} {args : List Expr} {b : Bool} (h : methOf e = some (o, m, args, b)) : ∃ x p apos cpos, o = .Name x p ∧ e = .Call (.Attribute (.Name x p) m apos) args [] cpos ∧ (apos.endLine == cpos.line) = b := by
  unfold methOf at h
  split at h
  · cases h; exact ⟨_, _, _, _, rfl, rfl, rfl⟩
  · cases h
theorem exp_ok (sf : Snd f) (h : compExp f c e = some cs) : SOk c (.Expr e pos) cs := by
  intro X R W g
  unfold compExp at h
  split at h
  · rename_i hd
    cases h
    cases e with
    | Constant v k p => cases v <;> first | exact ms_doc | cases hd
    | _ => cases hd
  · split at h
    · rename_i o m a hm
      split at h
      · rename_i hh
        obtain ⟨rfl, hp⟩ := hh
        obtain ⟨x, hx, h⟩ := Option.bind_eq_some_iff.mp h
        obtain ⟨i, hi, h⟩ := Option.bind_eq_some_iff.mp h
        obtain ⟨y, hy, rfl⟩ := Option.map_eq_some_iff.mp h
        obtain ⟨z, p, apos, cpos, rfl, rfl, hl⟩ := meth_of hm
        exact ms_app ((sf c _ x hx X R W g.g).var i (varOf_of hi)) (sf c _ y hy X R W g.g).me.pe hp rfl hl rfl
      · cases h
    · split at h
      · rename_i hn
        obtain ⟨y, hy, rfl⟩ := Option.map_eq_some_iff.mp h
        exact ms_expr (sf c _ y hy X R W g.g).me.pe (swaps_of hn)
      · cases h
theorem ret_ok (sf : Snd f) (h : compRet f c e = some cs) : SOk c (.Return (some e) pos) cs := by
  intro X R W g
  obtain ⟨x, hx, h⟩ := Option.bind_eq_some_iff.mp h
  split at h
  · rename_i i hi
    cases h
    exact ms_retV ((sf c _ x hx X R W g.g).var i (varOf_of hi))
  · split at h
    · rename_i hv
      cases h
      exact ms_ret hv (sf c _ x hx X R W g.g).me.pe
    · cases h
theorem sw_line {elt : Expr} {gens : List Comprehension} {scope : Scope} {vp py : Pos} {y : Str} {n : Nat} {env : PySem.Env} (hk : env.scope.kind = .function) (hs : env.scope = c.sc) (h : oneLine c y py scope vp = true) :
    swapsWith (.ListComp elt gens scope vp) (some (.Name y py)) n env = pure true := by
  unfold oneLine at h
  rw [Bool.and_eq_true, Bool.and_eq_true] at h
  obtain ⟨⟨h1, h2⟩, h3⟩ := h
  have e : swapsWith (.ListComp elt gens scope vp) (some (.Name y py)) n env = pure (env.blockKind == .function && env.kindOf y == some .local && py.line == vp.line && !(scope.names.any fun z => z.1 == y && (z.2 == .local || z.2 == .cell))) := rfl
  rw [e, h2, h3]
  have b : env.blockKind = .function := by
    unfold PySem.Env.blockKind
    rw [hk]
    rfl
  have k : env.kindOf y = some .local := by
    unfold PySem.Env.kindOf
    rw [hs]
    unfold isLoc at h1
    split at h1
    · assumption
    · cases h1
  rw [b, k]
  rfl
theorem isLoc_of {o : Option NameKind} (h : isLoc o = true) : o = some .local := by
  unfold isLoc at h
  split at h
  · rfl
  · cases h
theorem asg_ok (sf : Snd f) (h : compAsg f c t e = some cs) : SOk c (.Assign [t] e pos) cs := by
  intro X R W g
  have nd : X.N.Nodup := by rw [g.g.hN]; exact g.g.nd
  unfold compAsg at h
  split at h
  · rename_i y py
    split at h
    · rename_i ht
      obtain ⟨l1, l2⟩ := tgOk_of g.g ht
      obtain ⟨i, hi, h⟩ := Option.bind_eq_some_iff.mp h
      split at h
      · rename_i hn
        obtain ⟨z, hz, rfl⟩ := Option.map_eq_some_iff.mp h
        exact ms_asg nd (by rw [g.g.hN]; exact ixOf_of hi) l1 (sf c _ z hz X R W g.g).me.pe (swaps_of hn) l2
      · split at h
        · split at h
          · rename_i ho
            obtain ⟨lp, hl, h⟩ := Option.bind_eq_some_iff.mp h
            obtain ⟨z, hz, rfl⟩ := Option.map_eq_some_iff.mp h
            have ho' := ho
            unfold oneLine at ho'
            rw [Bool.and_eq_true, Bool.and_eq_true] at ho'
            exact ps_wk (lcs_ok sf g.g hl hz (ixOf_of hi) (isLoc_of ho'.1.1) (sw_line (c := c) (by rw [g.g.sc]; exact g.kind) g.g.sc ho)) fun D σ H h => le_asg h
          · cases h
        · cases h
    · cases h
  · split at h
    · rename_i hh
      obtain ⟨is, hi, h⟩ := Option.bind_eq_some_iff.mp h
      obtain ⟨z, hz, rfl⟩ := Option.map_eq_some_iff.mp h
      exact ms_asgT (sf c _ z hz X R W g.g).me.pe (pg_ok g.g (by unfold compT; exact Option.map_eq_some_iff.mpr ⟨is, hi, rfl⟩)) (sole_of hh.2) (swapped_of hh.1)
    · cases h
  · split at h
    · rename_i hh
      obtain ⟨x, hx, h⟩ := Option.bind_eq_some_iff.mp h
      obtain ⟨i, hi, h⟩ := Option.bind_eq_some_iff.mp h
      obtain ⟨y, hy, h⟩ := Option.bind_eq_some_iff.mp h
      obtain ⟨z, hz, rfl⟩ := Option.map_eq_some_iff.mp h
      exact ms_sub g.g.hK g.g.hu ((sf c _ x hx X R W g.g).var i (varOf_of hi)) (sf c _ y hy X R W g.g).me.pe (sf c _ z hz X R W g.g).me.pe (sole_of hh.2) swappedSub hh.1
    · cases h
  · cases h
theorem stgS_ok (sf : Snd f) (sr : SndS r) : SndS (stgS f r) := by
  intro c st cs h
  unfold stgS at h
  split at h
  · cases h; exact fun X R W g => ms_pass
  · cases h; exact fun X R W g => ms_break
  · exact exp_ok sf h
  · cases h; exact fun X R W g => ms_retN
  · exact ret_ok sf h
  · exact asg_ok sf h
  · obtain ⟨x, hx, h⟩ := Option.bind_eq_some_iff.mp h
    obtain ⟨y, hy, h⟩ := Option.bind_eq_some_iff.mp h
    obtain ⟨z, hz, rfl⟩ := Option.map_eq_some_iff.mp h
    exact fun X R W g => ms_if (sf c _ x hx X R W g.g).me.pt (ss_ok sr hy X R W g) (ss_ok sr hz X R W g)
  · split at h
    · rename_i hs
      obtain ⟨T, hT, h⟩ := Option.bind_eq_some_iff.mp h
      obtain ⟨x, hx, h⟩ := Option.bind_eq_some_iff.mp h
      obtain ⟨y, hy, rfl⟩ := Option.map_eq_some_iff.mp h
      exact fun X R W g => ms_for g.hp g.g.calm (compI_ok sf hx X R W g.g) (pg_ok g.g hT) (ss_ok sr hy X R W g) (fold_of hs _)
    · cases h
  · obtain ⟨x, hx, h⟩ := Option.bind_eq_some_iff.mp h
    obtain ⟨y, hy, rfl⟩ := Option.map_eq_some_iff.mp h
    exact fun X R W g => ms_while g.hp (sf c _ x hx X R W g.g).me.pt (ss_ok sr hy X R W g)
  · cases h; exact rais_ok
  · cases h
end
def comp : Nat → Cmp
  | 0 => fun _ _ => none
  | n + 1 => fun c e => (stgA (comp n) c e).orElse fun _ => (stgB (comp n) c e).orElse fun _ => (stgC (comp n) c e).orElse fun _ => stgD (comp n) c e
theorem comp_ok : ∀ n, Snd (comp n)
  | 0 => fun c e ce h => nomatch h
  | n + 1 => fun c e ce h => by
    have ih := comp_ok n
    unfold comp at h
    cases h1 : stgA (comp n) c e with
    | some x => rw [h1] at h; cases h; exact stgA_ok ih c e _ h1
    | none =>
      rw [h1] at h
      cases h2 : stgB (comp n) c e with
      | some x => rw [h2] at h; cases h; exact stgB_ok ih c e _ h2
      | none =>
        rw [h2] at h
        cases h3 : stgC (comp n) c e with
        | some x => rw [h3] at h; cases h; exact stgC_ok ih c e _ h3
        | none =>
          rw [h3] at h
          exact stgD_ok ih c e ce h
def compS (m : Nat) : Nat → CmpS
  | 0 => fun _ _ => none
  | n + 1 => stgS (comp m) (compS m n)
theorem compS_ok (m : Nat) : ∀ n, SndS (compS m n)
  | 0 => fun c e ce h => nomatch h
  | n + 1 => stgS_ok (comp_ok m) (compS_ok m n)
end Mi
end
section
namespace Mi
open PySem PySem.Spec L2
structure Df where
  np : Nat
  nl : Nat
  ow : List Nat
  mu : List Nat
  fuel : Nat
  body : List CS
abbrev Prg := List (Str × Df)
def sigOf (P : Prg) (f : Str) : List Nat := match P.lookup f with
  | some d => d.ow
  | none => []
def cfOf (call : Str → List Slot → CRes) (P : Prg) (d : Df) : Cf := { call := call, sig := sigOf P, mu := d.mu, fx := d.ow, fuel := d.fuel }
def outsOf (d : Df) (ρ : Env) : List Slot := (List.range d.np).map fun j => if d.ow.contains j = true then (ρ[j]?).getD .emp else .emp
def isOwn : Option Slot → Bool
  | some (.own _) => true
  | _ => false
def ssOk (d : Df) (ss : List Slot) : Bool := decide (ss.length = d.np) && (List.range d.np).all fun j => !isOwn ss[j]? || d.ow.contains j
def endF (d : Df) : Fw → CRes
  | .nx ρ => .ret (false, .none) (outsOf d ρ)
  | .rt r ρ => .ret r (outsOf d ρ)
  | .mv i x ρ => .ret (true, x) (outsOf d (ρ.set i .emp))
  | .exc x ρ => .exc x
  | _ => .bad
def rho0 (d : Df) (ss : List Slot) : Env := ss ++ List.replicate (d.nl - d.np) .emp
def callF (P : Prg) : Nat → Str → List Slot → CRes
  | 0, _, _ => .bad
  | n + 1, f, ss => match P.lookup f with
    | none => .bad
    | some d => if ssOk d ss = true then endF d (evSs (cfOf (callF P n) P d) d.body (rho0 d ss)) else .bad
def spC (K : PySem.W.Frag) (ex : Exn → (Addr → Prop) → Hp → Value → Option Addr → Prop) (call : Str → List Slot → CRes) (nm : Str) : Sp := spI ⟨K, ⟨call, fun _ => [], [], [], 0⟩, ex⟩ nm
section
variable {P : Program} {w : World} {K : PySem.W.Frag} {mg : Str → Option Value} {base : Heap} {ex : Exn → (Addr → Prop) → Hp → Value → Option Addr → Prop}
def Cal (P : Program) (w : World) (K : PySem.W.Frag) (mg : Str → Option Value) (base : Heap) (k : Nat) (x : Str) (n : Nat) (sp : Sp) : Prop :=
  ∃ a fd ps, FnOk P w K mg base (L2.CX P w) k a fd ps sp ∧ mg x = some (.ref a) ∧ PySem.W.keepIn K (.ref a) = true ∧ Binds K fd ps [] ∧ ps.length = n
structure Stat (K : PySem.W.Frag) (mg : Str → Option Value) (c : Ctx) : Prop where
  cons : ∀ x d, c.cons.lookup x = some d → ∃ v u, mg x = some u ∧ RelV v u ∧ ∀ O H, Rp K O H v d
  wrs : ∀ x ds, c.wrs.lookup x = some ds → ∃ a xs, mg x = some (.ref a) ∧ (∀ H, SqT K H a xs) ∧ ∀ O H, RpL K O H xs ds
  blt : ∀ x ∈ bltL, mg x = none
def ctxD (N : List Str) (st : Stmt) (funs : List (Str × Nat)) (cons : List (Str × D)) (wrs : List (Str × List D)) : Ctx := ⟨N, defScope st, fun _ => true, funs, cons, wrs⟩
theorem own_rho {d : Df} {ss : List Slot} {vs : List V} {σ0 : L2.St} (hl : ss.length = d.np) (hv : vs.length = d.np) (hσ : ∀ i : Nat, i < vs.length → σ0[i]? = (vs.map some)[i]?) : ∀ (i : Nat) (s : Slot), (rho0 d ss)[i]? = some s → s = Slot.emp ∨ (ss[i]? = some s ∧ σ0[i]? = (vs.map some)[i]?) := fun i s h => by
  unfold rho0 at h
  by_cases hi : i < ss.length
  · rw [List.getElem?_append_left hi] at h
    exact .inr ⟨h, hσ i (by omega)⟩
  · rw [List.getElem?_append_right (by omega)] at h
    have := List.getElem?_eq_some_iff.mp h
    obtain ⟨h1, h2⟩ := this
    rw [List.getElem_replicate] at h2
    exact .inl h2.symm
theorem start_get {N : List Str} {vs : List V} {i : Nat} (h : i < vs.length) : (L2.start N vs)[i]? = (vs.map some)[i]? := by
  unfold L2.start
  rw [List.getElem?_append_left (by simpa using h)]
theorem outs_get {d : Df} {ρ : Env} {j : Nat} {s : Slot} (h : (outsOf d ρ)[j]? = some s) : j < d.np ∧ (s = .emp ∨ (ρ[j]? = some s ∧ j ∈ d.ow)) := by
  unfold outsOf at h
  rw [List.getElem?_map] at h
  obtain ⟨k, hk, e⟩ := Option.map_eq_some_iff.mp h
  have hj : j < d.np := by simpa using (List.getElem?_eq_some_iff.mp hk).1
  rw [List.getElem?_range hj] at hk
  cases hk
  refine ⟨hj, ?_⟩
  split at e
  · rename_i hm
    cases z : ρ[j]? with
    | none => rw [z] at e; exact .inl e.symm
    | some t => rw [z] at e; cases e; exact .inr ⟨rfl, by simpa using hm⟩
  · exact .inl e.symm
theorem outs_len {d : Df} {ρ : Env} : (outsOf d ρ).length = d.np := by simp [outsOf]
theorem RR.own {H₀ : Hp} {O : Addr → Prop} {H : Hp} {ρ ρ' : Env} {σ σ' : L2.St} {r : Rs} {v : V} (h : RR K H₀ O H ρ σ r v) (own : ∀ k b, Own ρ' σ' k b → Own ρ σ k b) : RR K H₀ O H ρ' σ' r v := by
  unfold RR at h ⊢
  split at h
  · rename_i q
    rw [if_pos q]
    obtain ⟨a, u, e1, o, n, nw, z⟩ := h
    exact ⟨a, u, e1, o, n, fun i w => nw i (own i a w), z⟩
  · rename_i q
    rw [if_neg q]
    exact h
theorem fn_ok {Pr : Prg} {x qual : Str} {st : Stmt} {f : Addr} {fd : FuncData} {N ps : List Str} {k m s : Nat} {d : Df} {funs : List (Str × Nat)} {cons : List (Str × D)} {wrs : List (Str × List D)}
    (F : Fun K x qual st f fd) (S : FnScope N ps (defScope st)) (hp : ps.length = d.np) (hn : N.length = d.nl) (hb : compSs (compS m s (ctxD N st funs cons wrs)) (defBody st) = some d.body) (hd : Pr.lookup x = some d)
    (T : Stat K mg (ctxD N st funs cons wrs)) (cal : ∀ g n', funs.lookup g = some n' → Cal P w K mg base k g n' (spC K ex (callF Pr k) g)) :
    FnOk P w K mg base (L2.CX P w) (k + 1) f fd ps (spC K ex (callF Pr (k + 1)) x) := by
  have nple : d.np ≤ d.nl := by
    rw [← hp, ← hn]
    have := congrArg List.length S.pre
    rw [List.length_take] at this
    omega
  refine F.okX S (fun vs H Q E ⟨O, ss, Sr, z⟩ => ?_) fun cdv A outer s H vs Q E hr ⟨O, ss, Sr, z⟩ => ?_
  · have ok : ssOk d ss = true := by
      by_cases ok : ssOk d ss = true
      · exact ok
      · have e : callF Pr (k + 1) x ss = .bad := by
          rw [callF, hd]
          exact if_neg ok
        have z : match callF Pr (k + 1) x ss with | .ret r outs => _ | .exc x => _ | .bad => False := z
        rw [e] at z
        exact z.elim
    unfold ssOk at ok
    rw [Bool.and_eq_true, decide_eq_true_eq] at ok
    have := Sr.len
    rw [List.length_map] at this
    omega
  · have e : callF Pr (k + 1) x ss = if ssOk d ss = true then endF d (evSs (cfOf (callF Pr k) Pr d) d.body (rho0 d ss)) else .bad := by
      rw [callF, hd]
    by_cases ok : ssOk d ss = true
    · rw [if_pos ok] at e
      have ok' := ok
      unfold ssOk at ok'
      rw [Bool.and_eq_true, decide_eq_true_eq, List.all_eq_true] at ok'
      obtain ⟨hl, how⟩ := ok'
      have hvl : vs.length = d.np := by
        have := Sr.len
        rw [List.length_map] at this
        omega
      have hσl : (L2.start N vs).length = d.nl := by
        unfold L2.start
        rw [List.length_append, List.length_map, List.length_replicate]
        omega
      let R : Rt := ⟨K, cfOf (callF Pr k) Pr d, ex⟩
      let W : WX := fun cls d _ H => E cls d H
      let X := cxOf (L2.CX P w) P w K mg base N qual (defScope st) f cdv A outer s H E
      have tk : Takes X W := takes_of rfl rfl rfl rfl
      have g : GoodS X R W (ctxD N st funs cons wrs) := by
        refine ⟨⟨rfl, rfl, ?_, rfl, S.nd, rfl, rfl, tk, fun g n' hg => ?_, T.cons, T.wrs, T.blt⟩, passes_of rfl, S.kind⟩
        · have := hr.un
          show (A.deeper _).units + 200 < cLine
          omega
        · obtain ⟨a, fd', ps', F', h1, h2, h3, h4⟩ := cal g n' hg
          exact ⟨k, a, fd', ps', F', hr, h1, h2, h3, h4⟩
      refine ⟨_, ss_ok (compS_ok _ _) hb X R W g, O, rho0 d ss, ?_⟩
      have hr0 : (rho0 d ss).length = (L2.start N vs).length := by
        rw [hσl]
        unfold rho0
        rw [List.length_append, List.length_replicate]
        omega
      have own0 := own_rho (d := d) (ss := ss) (vs := vs) (σ0 := start N vs) hl hvl fun i hi => start_get hi
      obtain ⟨S0, T0⟩ := Sr.mask hr0 own0
      refine ⟨S0, ?_⟩
      have z : match callF Pr (k + 1) x ss with
        | .ret r outs => ∀ O' H' v, SR K O' H' outs (vs.map some) → Step O H ss (vs.map some) O' H' outs (vs.map some) → RR K H O' H' outs (vs.map some) r v → Q v H'
        | .exc x => ∀ O' H', SR K O' H' (emps ss) (vs.map some) → Step O H ss (vs.map some) O' H' (emps ss) (vs.map some) → ∀ cls d, ex x O' H' cls d → E cls d H'
        | .bad => False := z
      rw [e] at z
      have back : ∀ {O' : Addr → Prop} {H' : Hp} {ρ' : Env} {σ' : L2.St}, SR K O' H' ρ' σ' → Step O H (rho0 d ss) (L2.start N vs) O' H' ρ' σ' → Fx d.ow (L2.start N vs) σ' →
          SR K O' H' (outsOf d ρ') (vs.map some) ∧ Step O H ss (vs.map some) O' H' (outsOf d ρ') (vs.map some) ∧ ∀ j b, Own (outsOf d ρ') (vs.map some) j b → Own ρ' σ' j b ∧ j ∈ d.ow := fun {O' H' ρ' σ'} S' T' fx => by
        have get : ∀ (j : Nat) t, (outsOf d ρ')[j]? = some t → t = .emp ∨ (ρ'[j]? = some t ∧ (vs.map some)[j]? = σ'[j]?) := fun j t h => by
          obtain ⟨h1, h2⟩ := outs_get h
          rcases h2 with h2 | ⟨h2, h3⟩
          · exact .inl h2
          · refine .inr ⟨h2, ?_⟩
            rw [fx j h3, start_get (by omega)]
        obtain ⟨S2, T2⟩ := S'.mask (by rw [outs_len, List.length_map, hvl]) get
        refine ⟨S2, (T0.trans T').trans T2, fun j b ⟨⟨t, e1⟩, e2⟩ => ?_⟩
        obtain ⟨h1, h2⟩ := outs_get e1
        rcases h2 with h2 | ⟨h2, h3⟩
        · cases h2
        · exact ⟨⟨⟨t, h2⟩, by rw [fx j h3, start_get (by omega)]; exact e2⟩, h3⟩
      show AnsS R W { nx := fun _ H' => Q .non H', rt := Q } (L2.start N vs) O H (rho0 d ss) (evSs R.cf d.body (rho0 d ss))
      cases ev : evSs R.cf d.body (rho0 d ss) with
      | nx ρ' =>
        rw [show evSs (cfOf (callF Pr k) Pr d) d.body (rho0 d ss) = _ from ev] at z
        intro O' H' σ' S' T' fx
        obtain ⟨S2, T2, o2⟩ := back S' T' fx
        exact z O' H' .non S2 T2 (RR.val .non)
      | rt r ρ' =>
        rw [show evSs (cfOf (callF Pr k) Pr d) d.body (rho0 d ss) = _ from ev] at z
        intro O' H' σ' v S' T' fx rr
        obtain ⟨S2, T2, o2⟩ := back S' T' fx
        exact z O' H' v S2 T2 (rr.own fun j b q => (o2 j b q).1)
      | mv i y ρ' =>
        rw [show evSs (cfOf (callF Pr k) Pr d) d.body (rho0 d ss) = _ from ev] at z
        intro O' H' σ' v S' T' fx hi hv so
        have nfx : i ∉ d.ow := stOk_of so i (by simp)
        obtain ⟨a, u, ea, oa, hu, ct⟩ := S'.sl i _ hi
        rw [hv] at ea; cases ea
        have li : i < ρ'.length := (List.getElem?_eq_some_iff.mp hi).1
        have get : ∀ (j : Nat) t, (ρ'.set i .emp)[j]? = some t → t = .emp ∨ (ρ'[j]? = some t ∧ σ'[j]? = σ'[j]?) := fun j t h => by
          by_cases hj : i = j
          · subst hj
            rw [List.getElem?_set_self li] at h
            exact .inl (Option.some.inj h).symm
          · rw [List.getElem?_set_ne hj] at h
            exact .inr ⟨h, rfl⟩
        obtain ⟨S1, T1⟩ := S'.mask (by rw [List.length_set]; exact S'.len) get
        obtain ⟨S2, T2, o2⟩ := back S1 (T'.trans T1) fx
        refine z O' H' _ S2 T2 (RR.new oa ?_ (fun j q => ?_) hu ct)
        · rcases T'.ow i a ⟨⟨y, hi⟩, hv⟩ with q | q
          · obtain ⟨⟨t, e1⟩, e2⟩ := q
            rcases own0 i _ e1 with z | ⟨z1, z2⟩
            · cases z
            · have hin : i < d.np := by rw [← hl]; exact (List.getElem?_eq_some_iff.mp z1).1
              have := how i (List.mem_range.mpr hin)
              rw [z1] at this
              exact absurd (by simpa [isOwn] using this) nfx
          · exact q
        · obtain ⟨q1, q2⟩ := o2 j a q
          obtain ⟨⟨t, e1⟩, e2⟩ := q1
          by_cases hj : i = j
          · subst hj
            exact nfx q2
          · rw [List.getElem?_set_ne hj] at e1
            exact hj (S'.inj i j a ⟨⟨y, hi⟩, hv⟩ ⟨⟨t, e1⟩, e2⟩)
      | bk ρ' =>
        rw [show evSs (cfOf (callF Pr k) Pr d) d.body (rho0 d ss) = _ from ev] at z
        exact z.elim
      | exc y ρ' =>
        rw [show evSs (cfOf (callF Pr k) Pr d) d.body (rho0 d ss) = _ from ev] at z
        intro O' H' σ' S' T' fx cls dd hx
        have lens : (emps ss).length = (vs.map some).length := by rw [emps, List.length_map, List.length_map]; omega
        have get : ∀ (j : Nat) t, (emps ss)[j]? = some t → t = .emp ∨ (ρ'[j]? = some t ∧ (vs.map some)[j]? = σ'[j]?) := fun j t h => by
          unfold emps at h
          rw [List.getElem?_map] at h
          obtain ⟨_, _, e⟩ := Option.map_eq_some_iff.mp h
          exact .inl e.symm
        obtain ⟨S2, T2⟩ := S'.mask lens get
        exact z O' H' S2 ((T0.trans T').trans T2) cls dd hx
      | bad =>
        rw [show evSs (cfOf (callF Pr k) Pr d) d.body (rho0 d ss) = _ from ev] at z
        exact z.elim
    · rw [if_neg ok] at e
      have z : match callF Pr (k + 1) x ss with | .ret r outs => _ | .exc x => _ | .bad => False := z
      rw [e] at z
      exact z.elim
end
end Mi
end
section
namespace Mi
open PySem PySem.Spec L2
theorem ints_rp {K : PySem.W.Frag} {O : Addr → Prop} {H : Hp} : ∀ ns : List Int, RpL K O H (ns.map V.int) (ns.map PyData.int)
  | [] => .nil
  | n :: ns => .cons (.int n) (ints_rp ns)
theorem only_sq {K : PySem.W.Frag} {H : Hp} {a : Addr} {xs : List V} (o : Only H) (h : SqL K H a xs) : SqF K H a xs := by
  rcases h with (h | h) | h
  · rcases o a with z | ⟨_, _, z⟩
    · rw [h] at z; cases z
    · rw [h] at z; cases z
  · exact .inl h
  · exact .inr h
theorem sp_law {K : PySem.W.Frag} {ex : Exn → (Addr → Prop) → Hp → Value → Option Addr → Prop} {call : Str → List Slot → CRes} {nm : Str} {H : Hp} {a : Addr} {ns : List Int} (o : Only H) (h : SqL K H a (ns.map V.int))
    (e : ∃ fl outs, call nm [.shr (scrD (ns.map PyData.int))] = .ret (fl, .bool true) outs) : spC K ex call nm [.ref a] H (fun v _ => v = .bl true) fun _ _ _ => False := by
  obtain ⟨fl, outs, e⟩ := e
  refine ⟨fun _ => False, [.shr (scrD (ns.map PyData.int))], ⟨fun _ z => z.elim, fun i s hs => ?_, fun i j b wi _ => ?_, rfl⟩, ?_⟩
  · cases i with
    | zero =>
      cases (show s = .shr (scrD (ns.map PyData.int)) from by simpa using hs.symm)
      exact ⟨.ref a, rfl, .scr (only_sq o h) (ints_rp ns)⟩
    | succ i => simp at hs
  · obtain ⟨⟨d, q⟩, _⟩ := wi
    cases i with
    | zero => simp at q
    | succ i => simp at q
  · show match call nm [.shr (scrD (ns.map PyData.int))] with | .ret r outs => _ | .exc x => _ | .bad => False
    rw [e]
    intro O' H' v S' T' rr
    unfold RR at rr
    rw [if_neg (by simp [isC])] at rr
    exact rr.rq.bool
theorem walk_end {l : PySem.W.OpenLaw} {q : Program} {loose : List Str} {XP : (Str → Option Value) → Heap → Prop} {YP : World → Heap → Prop} {d : DefRec} {K : Params → PySem.W.Frag} {Pr : Prg} {k : Nat} {x nm : Str} {ex : Exn → (Addr → Prop) → Hp → Value → Option Addr → Prop}
    (hn : l.most = some 63) (hdf : d.params.defaults = []) (hr : Room k callerA) (hY : ∀ (w : World) (h : Heap), YP w h → (K w.params).In h)
    (F : ∀ (w : World) (mg : Str → Option Value) (fa : Addr) (h : Heap), (K w.params).In h → h.Ns mainGlobals mg → mg d.name = some (.ref fa) →
      ∃ fd : FuncData, (∀ (s : Shared) (u : Value), BindsTo s fd ⟨[u], []⟩ [(x, u)]) ∧ ∀ base : Heap, (K w.params).In base → base.Ns mainGlobals mg → FnOk l.prog w (K w.params) mg base (L2.CX l.prog w) k fa fd [x] (spC (K w.params) ex (callF Pr k) nm))
    (hlaw : ∀ ns : List Int, ns.length ≤ 63 → (∀ z ∈ ns, Builtin.Int.intBits z ≤ 1048576) → ∃ fl outs, callF Pr k nm [.shr (scrD (ns.map PyData.int))] = .ret (fl, .bool true) outs) :
    PySem.W.WalkO q loose XP YP l.row.toRowW d [] (fun f vs => PySem.call f vs) :=
  L2.walk_ofB (n := 63) (k := k) (x := x) (CX := fun w => L2.CX l.prog w) (sp := fun w => spC (K w.params) ex (callF Pr k) nm) hn (by decide) hdf hr hY F (fun w H a ns h1 hb h2 h3 => sp_law h2 h3 (hlaw ns h1 hb))
    fun w H s e s' ⟨_, _, _, _, _, _, _, _, _, _, _, _, z⟩ => z
end Mi
end
section
namespace Mi
open PySem PySem.Spec L2
structure RowD where
  x : Str
  st : Stmt
  N : List Str
  ps : List Str
  d : Df
def funsOf (rs : List RowD) : List (Str × Nat) := rs.map fun r => (r.x, r.d.np)
def prgOf (rs : List RowD) : Prg := rs.map fun r => (r.x, r.d)
structure RowOk (funs : List (Str × Nat)) (cons : List (Str × D)) (wrs : List (Str × List D)) (r : RowD) : Prop where
  sc : FnScope r.N r.ps (defScope r.st)
  np : r.ps.length = r.d.np
  nl : r.N.length = r.d.nl
  bd : compSs (compS 40 20 (ctxD r.N r.st funs cons wrs)) (defBody r.st) = some r.d.body
def RowK (K : PySem.W.Frag) (mg : Str → Option Value) (r : RowD) : Prop := ∃ f fd, Fun K r.x r.x r.st f fd ∧ mg r.x = some (.ref f) ∧ Binds K fd r.ps []
theorem ac {α : Type} {P : α → Prop} {a : α} {l : List α} (h : P a) (t : ∀ r ∈ l, P r) : ∀ r ∈ a :: l, P r := fun r hr => (List.mem_cons.mp hr).elim (fun e => e ▸ h) (t r)
theorem an {α : Type} {P : α → Prop} : ∀ r ∈ ([] : List α), P r := fun r hr => absurd hr (by simp)
section
variable {K : PySem.W.Frag} {h : Heap} {mg : Str → Option Value}
theorem rk_mk {x : Str} {st : Stmt} {N ps : List Str} {d : Df} {f : Addr} {od an' : Option Addr} {sl : Array (Option Value)} {oc kV dc pm cd ct : Value} (X : K.In h) (G : h.Ns mainGlobals mg)
    (b : ∀ (kV doc pm : Value) (an : Option Addr) (cdv ct : Value) (us : List Value), us.length = ps.length → bindArgs (PySem.W.fnOf x x (defArgs st) (defBody st) (defScope st) .none kV doc pm an cdv ct) ⟨us, []⟩ = pure (ps.zip us))
    (a : PySem.W.nsIn K mainGlobals x = some (some (.ref f))) (l : K.lookup f = some ⟨oc, od, .func (PySem.W.fnOf x x (defArgs st) (defBody st) (defScope st) .none kV dc pm an' cd ct), sl⟩) (c : PySem.W.codeIn K cd x = true) (k : PySem.W.keepIn K (.ref f) = true) : RowK K mg ⟨x, st, N, ps, d⟩ := by
  have F := fun_mk (st := st) l c k
  exact ⟨f, _, F, PySem.W.mg_of X G a, F.binds b⟩
def CK (K : PySem.W.Frag) (mg : Str → Option Value) (x : Str) (d : D) : Prop := ∃ v u, mg x = some u ∧ RelV v u ∧ ∀ (O : Addr → Prop) H, Rp K O H v d
def WK (K : PySem.W.Frag) (mg : Str → Option Value) (x : Str) (ds : List D) : Prop := ∃ a xs, mg x = some (.ref a) ∧ (∀ H, SqT K H a xs) ∧ ∀ (O : Addr → Prop) H, RpL K O H xs ds
theorem ck_int {x : Str} {i : Int} {t : Tok} (X : K.In h) (G : h.Ns mainGlobals mg) (a : PySem.W.nsIn K mainGlobals x = some (some (.int i t))) : CK K mg x (.int i) :=
  ⟨.int i, _, PySem.W.mg_of X G a, ⟨t, rfl⟩, fun _ _ => .int i⟩
theorem ck_str {x : Str} {i : Str} {t : Tok} (X : K.In h) (G : h.Ns mainGlobals mg) (a : PySem.W.nsIn K mainGlobals x = some (some (.str i t))) : CK K mg x (.str i) :=
  ⟨.str i, _, PySem.W.mg_of X G a, ⟨t, rfl⟩, fun _ _ => .str i⟩
theorem wk_strs {x : Str} {ss : List Str} {a : Addr} {dc : Option Addr} {vs : Array Value} {n : Nat} {sl : Array (Option Value)} (X : K.In h) (G : h.Ns mainGlobals mg) (e : PySem.W.nsIn K mainGlobals x = some (some (.ref a)))
    (l : K.lookup a = some ⟨.type "tuple", dc, .seq vs n, sl⟩) (sz : vs.size ≤ sizeLine) (v : Vals (ss.map V.str) vs.toList) : WK K mg x (ss.map PyData.str) :=
  ⟨a, ss.map V.str, PySem.W.mg_of X G e, fun H => .inr ⟨_, vs, n, l, rfl, rfl, sz, v⟩, fun O H => RpL.strs ss⟩
theorem lookup_all {β : Type} {P : Str → β → Prop} : ∀ {l : List (Str × β)}, (∀ p ∈ l, P p.1 p.2) → ∀ x b, l.lookup x = some b → P x b
  | [], _, x, b, e => by cases e
  | (k, v) :: r, h, x, b, e => by
    rw [List.lookup_cons] at e
    cases q : x == k with
    | true =>
      rw [q] at e
      cases e
      have : x = k := by simpa using q
      subst this
      exact h (x, v) List.mem_cons_self
    | false =>
      rw [q] at e
      exact lookup_all (fun p hp => h p (List.mem_cons_of_mem _ hp)) x b e
theorem rows_at : ∀ {rs : List RowD} {x : Str} {n : Nat}, (funsOf rs).lookup x = some n → ∃ r ∈ rs, r.x = x ∧ r.d.np = n ∧ (prgOf rs).lookup x = some r.d
  | [], _, _, e => by cases e
  | r :: rs, x, n, e => by
    unfold funsOf at e
    rw [List.map_cons, List.lookup_cons] at e
    unfold prgOf
    rw [List.map_cons, List.lookup_cons]
    cases q : x == r.x with
    | true =>
      rw [q] at e
      cases e
      exact ⟨r, List.mem_cons_self, (by simpa using q : x = r.x).symm, rfl, rfl⟩
    | false =>
      rw [q] at e
      obtain ⟨r', h1, h2, h3, h4⟩ := rows_at (rs := rs) e
      exact ⟨r', List.mem_cons_of_mem _ h1, h2, h3, h4⟩
variable {P : Program} {w : World} {ex : Exn → (Addr → Prop) → Hp → Value → Option Addr → Prop}
theorem rows_cal {rs : List RowD} {cons : List (Str × D)} {wrs : List (Str × List D)} (ok : ∀ r ∈ rs, RowOk (funsOf rs) cons wrs r) (rk : ∀ r ∈ rs, RowK K mg r)
    (T1 : ∀ x d, cons.lookup x = some d → CK K mg x d) (T2 : ∀ x ds, wrs.lookup x = some ds → WK K mg x ds) (T3 : ∀ x ∈ bltL, mg x = none)
    (base : Heap) : ∀ k x n, (funsOf rs).lookup x = some n → Cal P w K mg base k x n (spC K ex (callF (prgOf rs) k) x)
  | 0, x, n, e => by
    obtain ⟨r, hr, rfl, rfl, hp⟩ := rows_at e
    obtain ⟨f, fd, F, hm, hb⟩ := rk r hr
    refine ⟨f, fd, r.ps, ⟨fun vs H Q E h => ?_, fun A outer s H args us vs Q E _ _ _ _ h => ?_⟩, hm, F.kp, hb, (ok r hr).np⟩
    · obtain ⟨O, ss, _, z⟩ := h
      exact z.elim
    · obtain ⟨O, ss, _, z⟩ := h
      exact z.elim
  | k + 1, x, n, e => by
    obtain ⟨r, hr, rfl, rfl, hp⟩ := rows_at e
    obtain ⟨f, fd, F, hm, hb⟩ := rk r hr
    have O := ok r hr
    exact ⟨f, fd, r.ps, fn_ok (ex := ex) F O.sc O.np O.nl O.bd hp ⟨T1, T2, T3⟩ fun g n' hg => rows_cal ok rk T1 T2 T3 base k g n' hg, hm, F.kp, hb, O.np⟩
theorem law_fn {rs : List RowD} {cons : List (Str × D)} {wrs : List (Str × List D)} (ok : ∀ r ∈ rs, RowOk (funsOf rs) cons wrs r) (rk : ∀ r ∈ rs, RowK K mg r)
    (T1 : ∀ x d, cons.lookup x = some d → CK K mg x d) (T2 : ∀ x ds, wrs.lookup x = some ds → WK K mg x ds) (T3 : ∀ x ∈ bltL, mg x = none)
    {k : Nat} {x y : Str} {st : Stmt} {N : List Str} {d : Df} {f fa : Addr} {od an' : Option Addr} {sl : Array (Option Value)} {oc kV dc pm cd ct : Value} (X : K.In h) (G : h.Ns mainGlobals mg) (hfa : mg x = some (.ref fa)) (hr : (⟨x, st, N, [y], d⟩ : RowD) ∈ rs) (hl : (prgOf rs).lookup x = some d)
    (b : ∀ (kV doc pm : Value) (an : Option Addr) (cdv ct : Value) (us : List Value), us.length = 1 → bindArgs (PySem.W.fnOf x x (defArgs st) (defBody st) (defScope st) .none kV doc pm an cdv ct) ⟨us, []⟩ = pure ([y].zip us))
    (a : PySem.W.nsIn K mainGlobals x = some (some (.ref f))) (l : K.lookup f = some ⟨oc, od, .func (PySem.W.fnOf x x (defArgs st) (defBody st) (defScope st) .none kV dc pm an' cd ct), sl⟩) (c : PySem.W.codeIn K cd x = true) (kp : PySem.W.keepIn K (.ref f) = true) :
    ∃ fd : FuncData, (∀ (s : Shared) (u : Value), BindsTo s fd ⟨[u], []⟩ [(y, u)]) ∧ ∀ base : Heap, K.In base → base.Ns mainGlobals mg → FnOk P w K mg base (L2.CX P w) (k + 1) fa fd [y] (spC K ex (callF (prgOf rs) (k + 1)) x) := by
  have e := hfa.symm.trans (PySem.W.mg_of X G a)
  cases e
  have F := fun_mk (st := st) l c kp
  have O := ok _ hr
  exact ⟨_, fun s u => .of_eq (b _ _ _ _ _ _ [u] rfl), fun base _ _ => fn_ok (ex := ex) F O.sc O.np O.nl O.bd hl ⟨T1, T2, T3⟩ fun g n' hg => rows_cal ok rk T1 T2 T3 base k g n' hg⟩
end
end Mi
end
section
namespace Mi
open PySem
inductive PO (α : Type) where
  | ok (a : α)
  | exc (x : Exn)
  | bad
def PO.bind {α β : Type} (p : PO α) (f : α → PO β) : PO β := match p with
  | .ok a => f a
  | .exc x => .exc x
  | .bad => .bad
@[simp] theorem PO.ok_bind {α β : Type} (a : α) (f : α → PO β) : (PO.ok a).bind f = f a := (rfl)
@[simp] theorem PO.exc_bind {α β : Type} (a : Exn) (f : α → PO β) : (PO.exc a : PO α).bind f = .exc a := (rfl)
@[simp] theorem PO.bad_bind {α β : Type} (f : α → PO β) : (PO.bad : PO α).bind f = .bad := (rfl)
def liftP {α : Type} (o : Option α) : PO α := match o with
  | some a => .ok a
  | none => .bad
@[simp] theorem liftP_some {α : Type} (a : α) : liftP (some a) = .ok a := (rfl)
@[simp] theorem liftP_none {α : Type} : liftP (none : Option α) = .bad := (rfl)
def rdV (s : Option Slot) : PO D := match s with
  | some (.own d) => .ok d
  | some (.shr d) => .ok d
  | _ => .bad
@[simp] theorem rdV_own (d : D) : rdV (some (.own d)) = .ok d := (rfl)
@[simp] theorem rdV_shr (d : D) : rdV (some (.shr d)) = .ok d := (rfl)
@[simp] theorem rdV_emp : rdV (some .emp) = .bad := (rfl)
def shrV (s : Option Slot) : PO Rs := match s with
  | some (.shr d) => .ok (false, d)
  | _ => .bad
@[simp] theorem shrV_shr (d : D) : shrV (some (.shr d)) = .ok (false, d) := (rfl)
@[simp] theorem shrV_own (d : D) : shrV (some (.own d)) = .bad := (rfl)
@[simp] theorem shrV_emp : shrV (some .emp) = .bad := (rfl)
def rd (c : CE) (p : Env → PO Rs) (ρ : Env) : PO D := match c with
  | .wr _ => .bad
  | .var i => rdV ρ[i]?
  | _ => (p ρ).bind fun r => .ok r.2
def rdW (c : CE) (p : Env → PO Rs) (ρ : Env) : PO D := match c with
  | .wr ds => .ok (.tuple ds)
  | .var i => rdV ρ[i]?
  | _ => (p ρ).bind fun r => .ok r.2
def isVW : CE → Bool
  | .wr _ => true
  | .var _ => true
  | _ => false
@[simp] theorem rd_var (i : Nat) (p : Env → PO Rs) (ρ : Env) : rd (.var i) p ρ = rdV ρ[i]? := (rfl)
@[simp] theorem rdW_var (i : Nat) (p : Env → PO Rs) (ρ : Env) : rdW (.var i) p ρ = rdV ρ[i]? := (rfl)
@[simp] theorem rdW_wr (ds : List D) (p : Env → PO Rs) (ρ : Env) : rdW (.wr ds) p ρ = .ok (.tuple ds) := (rfl)
theorem rd_of {c : CE} {p : Env → PO Rs} {ρ : Env} (h : isVW c = false) : rd c p ρ = (p ρ).bind fun r => .ok r.2 := by
  cases c <;> first | rfl | cases h
theorem rdW_of {c : CE} {p : Env → PO Rs} {ρ : Env} (h : isVW c = false) : rdW c p ρ = (p ρ).bind fun r => .ok r.2 := by
  cases c <;> first | rfl | cases h
abbrev Wk := List D × Option Nat
def wkV (i : Nat) (s : Option Slot) : PO Wk := match s with
  | some (.own (.list xs)) => .ok (xs, some i)
  | some (.shr d) => liftP ((itemsW d).map fun xs => (xs, none))
  | _ => .bad
def wk (c : CE) (p : Env → PO Rs) (ρ : Env) : PO Wk := match c with
  | .wr _ => .bad
  | .var i => wkV i ρ[i]?
  | _ => (p ρ).bind fun r => liftP ((itemsW r.2).map fun xs => (xs, none))
def enumD (xs : List D) : List D := xs.mapIdx fun i x => .tuple [.int i, x]
def wkEV (i : Nat) (s : Option Slot) : PO Wk := match s with
  | some (.own (.list xs)) => .ok (enumD xs, some i)
  | some (.shr d) => if noStr d = true then liftP ((itemsW d).map fun xs => (enumD xs, none)) else .bad
  | _ => .bad
@[simp] theorem wkV_own (i : Nat) (xs : List D) : wkV i (some (.own (.list xs))) = .ok (xs, some i) := (rfl)
@[simp] theorem wkV_shr (i : Nat) (d : D) : wkV i (some (.shr d)) = liftP ((itemsW d).map fun xs => (xs, none)) := (rfl)
@[simp] theorem wkEV_own (i : Nat) (xs : List D) : wkEV i (some (.own (.list xs))) = .ok (enumD xs, some i) := (rfl)
@[simp] theorem wkEV_shr (i : Nat) (d : D) : wkEV i (some (.shr d)) = if noStr d = true then liftP ((itemsW d).map fun xs => (enumD xs, none)) else .bad := (rfl)
def wkE (c : CE) (p : Env → PO Rs) (ρ : Env) : PO Wk := match c with
  | .wr _ => .bad
  | .var i => wkEV i ρ[i]?
  | _ => (p ρ).bind fun r => if noStr r.2 = true then liftP ((itemsW r.2).map fun xs => (enumD xs, none)) else .bad
@[simp] theorem wk_var (i : Nat) (p : Env → PO Rs) (ρ : Env) : wk (.var i) p ρ = wkV i ρ[i]? := (rfl)
@[simp] theorem wkE_var (i : Nat) (p : Env → PO Rs) (ρ : Env) : wkE (.var i) p ρ = wkEV i ρ[i]? := (rfl)
theorem wk_of {c : CE} {p : Env → PO Rs} {ρ : Env} (h : isVW c = false) : wk c p ρ = (p ρ).bind fun r => liftP ((itemsW r.2).map fun xs => (xs, none)) := by
  cases c <;> first | rfl | cases h
theorem wkE_of {c : CE} {p : Env → PO Rs} {ρ : Env} (h : isVW c = false) : wkE c p ρ = (p ρ).bind fun r => if noStr r.2 = true then liftP ((itemsW r.2).map fun xs => (enumD xs, none)) else .bad := by
  cases c <;> first | rfl | cases h
def flatP {β α : Type} (f : β → PO (List α)) : List β → PO (List α)
  | [] => .ok []
  | x :: r => match f x with
    | .ok ys => match flatP f r with
      | .ok zs => .ok (ys ++ zs)
      | _ => .bad
    | _ => .bad
def blkP {α : Type} (vs : List Nat) (tg : Tg) (f : Env → PO (List α)) (xl : Wk) (ρ : Env) : PO (List α) :=
  if (tgL tg).all (fun i => vs.contains i) = true then
    flatP (fun x => match setT tg x (wipeE (lockE ρ xl.2) vs) with
      | none => .bad
      | some ρ1 => f ρ1) xl.1
  else .bad
abbrev EvP := (Env → PO Rs) × (Env → PO Wk)
def pkP (c : CE) (e : Env → PO Rs) : EvP := (e, wk c e)
def noP (i : Env → PO Wk) : EvP := (fun _ => .bad, i)
def callP (cf : Cf) (f : Str) (ss : List Slot) : PO Rs := match cf.call f ss with
  | .ret r _ => .ok r
  | .exc x => .exc x
  | .bad => .bad
def argP (mu : Bool) (c : CE) (p : Env → PO Rs) (ρ : Env) : PO Slot :=
  if mu = true then match c with
    | .var i => (shrV ρ[i]?).bind fun r => .ok (.shr r.2)
    | _ => (p ρ).bind fun r => .ok (mk r.1 r.2)
  else (p ρ).bind fun r => .ok (.shr r.2)
def zipP (x y : D) : PO Wk := match x, y with
  | .list xs, .list ys => .ok (zipD xs ys, none)
  | .tuple xs, .tuple ys => .ok (zipD xs ys, none)
  | _, _ => .bad
def revP : D → PO Rs
  | .list xs => .ok (true, .list xs.reverse)
  | .tuple xs => .ok (false, .tuple xs.reverse)
  | _ => .bad
def getP (x k d : D) : PO Rs := match x with
  | .dict kvs => if fitsK kvs k = true then .ok (false, (getK kvs k).getD d) else .bad
  | _ => .bad
def isNon : D → Bool
  | .none => true
  | _ => false
mutual
def evP (cf : Cf) : CE → EvP
  | .cst d => pkP (.cst d) fun ρ => .ok (false, d)
  | .var i => pkP (.var i) fun ρ => shrV ρ[i]?
  | .tup es => pkP (.tup es) fun ρ => (evPL cf es ρ).bind fun ds => if ds.length ≤ sizeLine then .ok (false, .tuple ds) else .bad
  | .lst es => pkP (.lst es) fun ρ => (evPL cf es ρ).bind fun ds => if ds.length ≤ sizeLine then .ok (true, .list ds) else .bad
  | .bin op a b => pkP (.bin op a b) fun ρ => (rd a (evP cf a).1 ρ).bind fun x => (rd b (evP cf b).1 ρ).bind fun y => liftP (binOp op x y)
  | .neg a => pkP (.neg a) fun ρ => ((evP cf a).1 ρ).bind fun x => liftP ((asInt x.2).map fun i => (false, PyData.int (-i)))
  | .cmp op a b => pkP (.cmp op a b) fun ρ => (rd a (evP cf a).1 ρ).bind fun x => (rd b (evP cf b).1 ρ).bind fun y => liftP ((cmpOp op x y).map fun b => (false, PyData.bool b))
  | .chn op op' a b c => pkP (.chn op op' a b c) fun ρ => ((evP cf a).1 ρ).bind fun x => ((evP cf b).1 ρ).bind fun y => (liftP (cmpOp op x.2 y.2)).bind fun t =>
      if t = true then ((evP cf c).1 ρ).bind fun z => liftP ((cmpOp op' y.2 z.2).map fun b => (false, PyData.bool b)) else .ok (false, .bool false)
  | .isin ng a b => pkP (.isin ng a b) fun ρ => ((evP cf a).1 ρ).bind fun x => (rdW b (evP cf b).1 ρ).bind fun y => liftP ((inOp x.2 y).map fun b => (false, PyData.bool (if ng = true then !b else b)))
  | .wr ds => pkP (.wr ds) fun _ => .bad
  | .isn ng a => pkP (.isn ng a) fun ρ => (rd a (evP cf a).1 ρ).bind fun d => .ok (false, PyData.bool (if isNon d = true then !ng else ng))
  | .not a => pkP (.not a) fun ρ => ((evP cf a).1 ρ).bind fun x => liftP ((tru x.2).map fun b => (false, PyData.bool !b))
  | .and a b => pkP (.and a b) fun ρ => ((evP cf a).1 ρ).bind fun x => (liftP (tru x.2)).bind fun t => if t = true then ((evP cf b).1 ρ).bind fun y => (liftP (tru y.2)).bind fun u => .ok (false, .bool u) else .ok (false, .bool false)
  | .or a b => pkP (.or a b) fun ρ => ((evP cf a).1 ρ).bind fun x => (liftP (tru x.2)).bind fun t => if t = true then .ok (false, .bool true) else ((evP cf b).1 ρ).bind fun y => (liftP (tru y.2)).bind fun u => .ok (false, .bool u)
  | .ite c a b => pkP (.ite c a b) fun ρ => ((evP cf c).1 ρ).bind fun x => (liftP (tru x.2)).bind fun t => if t = true then (evP cf a).1 ρ else (evP cf b).1 ρ
  | .idx a b => pkP (.idx a b) fun ρ => (rd a (evP cf a).1 ρ).bind fun x => ((evP cf b).1 ρ).bind fun y => liftP ((idxOp x y.2).map fun d => (false, d))
  | .sl0 a => pkP (.sl0 a) fun ρ => (rd a (evP cf a).1 ρ).bind fun x => liftP (slcOp x none none)
  | .sl1 a b => pkP (.sl1 a b) fun ρ => (rd a (evP cf a).1 ρ).bind fun x => ((evP cf b).1 ρ).bind fun y => liftP ((asInt y.2).bind fun i => slcOp x (some i) none)
  | .sl2 a b => pkP (.sl2 a b) fun ρ => (rd a (evP cf a).1 ρ).bind fun x => ((evP cf b).1 ρ).bind fun y => liftP ((asInt y.2).bind fun i => slcOp x none (some i))
  | .sl3 a b c => pkP (.sl3 a b c) fun ρ => (rd a (evP cf a).1 ρ).bind fun x => ((evP cf b).1 ρ).bind fun y => (liftP (asInt y.2)).bind fun i => ((evP cf c).1 ρ).bind fun z => liftP ((asInt z.2).bind fun j => slcOp x (some i) (some j))
  | .rev a => pkP (.rev a) fun ρ => (rd a (evP cf a).1 ρ).bind fun x => revP x
  | .b1 f a => pkP (.b1 f a) fun ρ => (rd a (evP cf a).1 ρ).bind fun x => liftP (b1Op f x)
  | .b2 f a b => pkP (.b2 f a b) fun ρ => ((evP cf a).1 ρ).bind fun x => ((evP cf b).1 ρ).bind fun y => liftP (b2Op f x.2 y.2)
  | .get a b c => pkP (.get a b c) fun ρ => (rd a (evP cf a).1 ρ).bind fun x => ((evP cf b).1 ρ).bind fun y => ((evP cf c).1 ρ).bind fun z => getP x y.2 z.2
  | .isi a ts => pkP (.isi a ts) fun ρ => (rd a (evP cf a).1 ρ).bind fun x => if isiOk x = true then .ok (false, PyData.bool (tyOf x ts)) else .bad
  | .call f es => pkP (.call f es) fun ρ => (evPA cf (cf.sig f) 0 es ρ).bind fun ss => callP cf f ss
  | .pop i => pkP (.pop i) fun _ => .bad
  | .popAt i a => pkP (.popAt i a) fun _ => .bad
  | .lrng a => pkP (.lrng a) fun ρ => ((evP cf a).1 ρ).bind fun x => liftP ((asInt x.2).bind fun i => if rngOk i = true ∧ i.toNat ≤ sizeLine then some (true, PyData.list (rngD 0 i.toNat)) else none)
  | .rng1 a => noP fun ρ => ((evP cf a).1 ρ).bind fun x => liftP ((asInt x.2).bind fun i => if rngOk i = true then some (rngD 0 i.toNat, none) else none)
  | .rng2 a b => noP fun ρ => ((evP cf a).1 ρ).bind fun x => ((evP cf b).1 ρ).bind fun y => liftP ((asInt x.2).bind fun i => (asInt y.2).bind fun j => if rngOk i = true ∧ rngOk j = true then some (rngD i (j - i).toNat, none) else none)
  | .rng3 a b c => noP fun ρ => ((evP cf a).1 ρ).bind fun x => ((evP cf b).1 ρ).bind fun y => ((evP cf c).1 ρ).bind fun z => liftP ((asInt x.2).bind fun i => (asInt y.2).bind fun j => (asInt z.2).bind fun k => if k = -1 ∧ rngOk i = true ∧ rngOk j = true then some (rngDn i (i - j).toNat, none) else none)
  | .enm a => noP fun ρ => wkE a (evP cf a).1 ρ
  | .zp a b => noP fun ρ => ((evP cf a).1 ρ).bind fun x => ((evP cf b).1 ρ).bind fun y => zipP x.2 y.2
  | .itm a => pkP (.itm a) fun _ => .bad
  | .lc vs elt tg it => pkP (.lc vs elt tg it) fun ρ => ((evP cf it).2 ρ).bind fun xl => if xl.1.length ≤ sizeLine then
      (blkP vs tg (fun ρ => ((evP cf elt).1 ρ).bind fun r => .ok [r.2]) xl ρ).bind fun ys => .ok (true, .list ys) else .bad
  | .lcf vs elt tg it c => pkP (.lcf vs elt tg it c) fun ρ => ((evP cf it).2 ρ).bind fun xl => if xl.1.length ≤ sizeLine then
      (blkP vs tg (fun ρ => ((evP cf c).1 ρ).bind fun t => (liftP (tru t.2)).bind fun t => if t = true then ((evP cf elt).1 ρ).bind fun r => .ok [r.2] else .ok []) xl ρ).bind fun ys => .ok (true, .list ys) else .bad
  | .lc2 vs vs2 elt tg it tg2 it2 => pkP (.lc2 vs vs2 elt tg it tg2 it2) fun ρ => ((evP cf it).2 ρ).bind fun xl =>
      (blkP vs tg (fun ρ => ((evP cf it2).2 ρ).bind fun xl2 => blkP vs2 tg2 (fun ρ => ((evP cf elt).1 ρ).bind fun r => .ok [r.2]) xl2 ρ) xl ρ).bind fun ys => if ys.length ≤ sizeLine then .ok (true, .list ys) else .bad
  | .dc vs k v tg it => pkP (.dc vs k v tg it) fun ρ => ((evP cf it).2 ρ).bind fun xl => if xl.1.length ≤ sizeLine then
      (blkP vs tg (fun ρ => ((evP cf k).1 ρ).bind fun x => ((evP cf v).1 ρ).bind fun y => .ok [(x.2, y.2)]) xl ρ).bind fun ps => liftP (dictF ps) else .bad
  | .dc2 vs vs2 k v tg it tg2 it2 => pkP (.dc2 vs vs2 k v tg it tg2 it2) fun ρ => ((evP cf it).2 ρ).bind fun xl =>
      (blkP vs tg (fun ρ => ((evP cf it2).2 ρ).bind fun xl2 => blkP vs2 tg2 (fun ρ => ((evP cf k).1 ρ).bind fun x => ((evP cf v).1 ρ).bind fun y => .ok [(x.2, y.2)]) xl2 ρ) xl ρ).bind fun ps => if ps.length ≤ sizeLine then liftP (dictF ps) else .bad
  | .dsp ks vs => pkP (.dsp ks vs) fun _ => .bad
  | .star => pkP .star fun _ => .bad
def evPL (cf : Cf) : List CE → Env → PO (List D)
  | [], ρ => .ok []
  | e :: es, ρ => ((evP cf e).1 ρ).bind fun r => (evPL cf es ρ).bind fun ds => .ok (r.2 :: ds)
def evPA (cf : Cf) : List Nat → Nat → List CE → Env → PO (List Slot)
  | _, _, [], ρ => .ok []
  | mu, j, e :: es, ρ => (argP (mu.contains j) e (evP cf e).1 ρ).bind fun a => (evPA cf mu (j + 1) es ρ).bind fun as => .ok (a :: as)
end
end Mi
end
section
namespace Mi
open PySem
section
variable {α : Type} {tg : Tg} {vs : List Nat} {f : Env → Out (List α)} {ρ : Env}
theorem wipeE_at {vs : List Nat} {ρ : Env} {i : Nat} : (wipeE ρ vs)[i]? = if i ∈ vs ∧ i < ρ.length then some .emp else ρ[i]? := by
  induction vs with
  | nil => simp [wipeE]
  | cons v vs ih =>
    unfold wipeE
    by_cases hv : v = i
    · subst hv
      by_cases hl : v < ρ.length
      · rw [List.getElem?_set_self (by rw [wipeE_length]; exact hl)]
        simp [hl]
      · rw [List.getElem?_eq_none (by rw [List.length_set, wipeE_length]; omega)]
        simp [hl]
    · rw [List.getElem?_set_ne hv, ih]
      have : ¬ i = v := fun e => hv e.symm
      simp [this]
theorem wipeE_wipe {vs : List Nat} {ρ : Env} : wipeE (wipeE ρ vs) vs = wipeE ρ vs := by
  apply List.ext_getElem?
  intro i
  rw [wipeE_at, wipeE_at, wipeE_length]
  split
  · rfl
  · rfl
theorem setT_wipe {tg : Tg} {x : D} {ρ ρ' : Env} {vs : List Nat} (hv : ∀ i ∈ tgL tg, i ∈ vs) (h : setT tg x (wipeE ρ vs) = some ρ') : wipeE ρ' vs = wipeE ρ vs := by
  have one : ∀ (i : Nat) (s : Slot) (σ : Env), i ∈ vs → wipeE (σ.set i s) vs = wipeE σ vs := fun i s σ hi => by
    apply List.ext_getElem?
    intro j
    rw [wipeE_at, wipeE_at, List.length_set]
    by_cases hj : j ∈ vs
    · by_cases hl : j < σ.length
      · simp [hj, hl]
      · simp [hj, hl]
    · have : i ≠ j := fun e => hj (e ▸ hi)
      rw [List.getElem?_set_ne this]
  cases tg with
  | nm i =>
    cases h
    rw [one i _ _ (hv i (by simp [tgL])), wipeE_wipe]
  | tp is =>
    cases x with
    | tuple ds =>
      unfold setT at h
      simp only at h
      split at h
      · cases h
        have go : ∀ (ps : List (Nat × D)) (σ : Env), (∀ p ∈ ps, p.1 ∈ vs) → wipeE (ps.foldl (fun r p => r.set p.1 (.shr p.2)) σ) vs = wipeE σ vs := fun ps => by
          induction ps with
          | nil => intro σ _; rfl
          | cons p ps ih =>
            intro σ hp
            rw [List.foldl_cons, ih _ fun q hq => hp q (List.mem_cons_of_mem _ hq), one _ _ _ (hp p List.mem_cons_self)]
        have z := go (is.zip ds) (wipeE ρ vs) fun p hp => hv p.1 (List.of_mem_zip (show (p.1, p.2) ∈ is.zip ds from hp)).1
        rw [z, wipeE_wipe]
      · cases h
    | _ => cases h
theorem turns_pure {g : D → List α} (hv : ∀ i ∈ tgL tg, i ∈ vs) : ∀ (xs : List D) (σ : Env), wipeE σ vs = wipeE ρ vs → (∀ x ∈ xs, ∃ ρ', setT tg x (wipeE ρ vs) = some ρ' ∧ ∃ ρ2, f ρ' = .ok (g x) ρ2 ∧ wipeE ρ2 vs = wipeE ρ vs) →
    ∃ σ', turns tg vs f xs σ = .ok (xs.flatMap g) σ' ∧ wipeE σ' vs = wipeE ρ vs
  | [], σ, e, _ => ⟨σ, rfl, e⟩
  | x :: xs, σ, e, h => by
    obtain ⟨ρ', e1, ρ2, e2, e3⟩ := h x List.mem_cons_self
    obtain ⟨σ', h1, h2⟩ := turns_pure hv xs ρ2 e3 fun y hy => h y (List.mem_cons_of_mem _ hy)
    refine ⟨σ', ?_, h2⟩
    rw [turns, e, e1]
    simp only [e2, h1, List.flatMap_cons]
theorem back_same {ρ σ : Env} {L : List Nat} (hl : ρ.length = σ.length) (h : ∀ i, i ∉ L → σ[i]? = ρ[i]?) : backE ρ σ L = ρ := by
  apply List.ext_getElem?
  intro i
  by_cases hi : i < ρ.length
  · have hb : i < (backE ρ σ L).length := by rw [backE_length]; omega
    have e : (backE ρ σ L)[i]? = some (backE ρ σ L)[i] := List.getElem?_eq_getElem hb
    rcases backE_get hl e with ⟨h1, h2⟩ | ⟨h1, h2⟩
    · rw [e, h2]
    · rw [e, ← h2, h i h1]
  · rw [List.getElem?_eq_none (by rw [backE_length]; omega), List.getElem?_eq_none (by omega)]
theorem blk_pure {g : D → List α} {xs : List D} {l : Option Nat} (hv : ∀ i ∈ tgL tg, i ∈ vs) (h : ∀ x ∈ xs, ∃ ρ', setT tg x (wipeE (lockE ρ l) vs) = some ρ' ∧ ∃ ρ2, f ρ' = .ok (g x) ρ2 ∧ wipeE ρ2 vs = wipeE (lockE ρ l) vs) : blkV vs tg f (xs, l) ρ = .ok (xs.flatMap g) ρ := by
  obtain ⟨σ', h1, h2⟩ := turns_pure hv xs (lockE ρ l) rfl h
  unfold blkV
  simp only [h1]
  have hl : ρ.length = σ'.length := by
    have := congrArg List.length h2
    rw [wipeE_length, wipeE_length, lockE_length] at this
    exact this.symm
  rw [back_same hl fun i hi => ?_]
  have hv' : i ∉ vs := fun z => hi (List.mem_append_left _ z)
  have hl' : l ≠ some i := fun z => hi (List.mem_append_right _ (by rw [z]; simp [lockL]))
  have := congrArg (fun r : Env => r[i]?) h2
  simp only [wipeE_not hv'] at this
  rw [this]
  cases l with
  | none => rfl
  | some j => exact List.getElem?_set_ne fun e => hl' (by rw [e])
theorem blk_nm {β : Type} {enc : β → D} {i : Nat} {g : β → List α} {bs : List β} {l : Option Nat} (hi : i ∈ vs) (h : ∀ b ∈ bs, ∃ ρ2, f ((wipeE (lockE ρ l) vs).set i (.shr (enc b))) = .ok (g b) ρ2 ∧ wipeE ρ2 vs = wipeE (lockE ρ l) vs) :
    blkV vs (.nm i) f (bs.map enc, l) ρ = .ok (bs.flatMap g) ρ := by
  have z : ∀ (cs : List β) (σ : Env), wipeE σ vs = wipeE (lockE ρ l) vs → (∀ b ∈ cs, ∃ ρ2, f ((wipeE (lockE ρ l) vs).set i (.shr (enc b))) = .ok (g b) ρ2 ∧ wipeE ρ2 vs = wipeE (lockE ρ l) vs) → ∃ σ', turns (.nm i) vs f (cs.map enc) σ = .ok (cs.flatMap g) σ' ∧ wipeE σ' vs = wipeE (lockE ρ l) vs := fun cs => by
    induction cs with
    | nil => exact fun σ e _ => ⟨σ, rfl, e⟩
    | cons b cs ih =>
      intro σ e h
      obtain ⟨ρ2, e2, e3⟩ := h b List.mem_cons_self
      obtain ⟨σ', h1, h2⟩ := ih ρ2 e3 fun c hc => h c (List.mem_cons_of_mem _ hc)
      refine ⟨σ', ?_, h2⟩
      rw [List.map_cons, turns, e]
      simp only [setT, e2, h1, List.flatMap_cons]
  obtain ⟨σ', h1, h2⟩ := z bs (lockE ρ l) rfl h
  unfold blkV
  simp only [h1]
  have hl : ρ.length = σ'.length := by
    have := congrArg List.length h2
    rw [wipeE_length, wipeE_length, lockE_length] at this
    exact this.symm
  rw [back_same hl fun k hk => ?_]
  have hv' : k ∉ vs := fun z => hk (List.mem_append_left _ z)
  have hl' : l ≠ some k := fun z => hk (List.mem_append_right _ (by rw [z]; simp [lockL]))
  have := congrArg (fun r : Env => r[k]?) h2
  simp only [wipeE_not hv'] at this
  rw [this]
  cases l with
  | none => rfl
  | some j => exact List.getElem?_set_ne fun e => hl' (by rw [e])
end
end Mi
end
section
namespace Mi
open PySem
def Sm {α : Type} (p : PO α) (o : Out α) (ρ : Env) : Prop := match p with
  | .ok a => o = .ok a ρ
  | .exc x => o = .exc x ρ
  | .bad => True
section
variable {α β : Type} {p : PO α} {o : Out α} {ρ : Env}
theorem Sm.ok {a : α} : Sm (.ok a) (.ok a ρ) ρ := rfl
theorem Sm.bad : Sm .bad o ρ := trivial
theorem Sm.exc {x : Exn} : Sm (.exc x : PO α) (.exc x ρ) ρ := rfl
theorem Sm.lift {a : Option α} : Sm (liftP a) (Mi.lift a ρ) ρ := by
  cases a with
  | none => trivial
  | some a => rfl
theorem Sm.bind {f : α → PO β} {g : α → Env → Out β} (h : Sm p o ρ) (k : ∀ a, Sm (f a) (g a ρ) ρ) : Sm (p.bind f) (o.bind g) ρ := by
  cases p with
  | ok a =>
    have e : o = .ok a ρ := h
    rw [e]
    exact k a
  | exc x =>
    have e : o = .exc x ρ := h
    rw [e]
    rfl
  | bad => trivial
theorem Sm.ite {c : Prop} [Decidable c] {q : PO α} {r : Out α} (h : c → Sm p o ρ) (k : ¬c → Sm q r ρ) : Sm (if c then p else q) (if c then o else r) ρ := by
  by_cases hc : c
  · rw [if_pos hc, if_pos hc]; exact h hc
  · rw [if_neg hc, if_neg hc]; exact k hc
theorem Sm.opd {c : CE} {q : Env → PO Rs} {ev : Env → Out Rs} {f : D → PO β} {g : Opd → Env → Out β} (h : Sm (q ρ) (ev ρ) ρ) (k : ∀ o d, res ρ o = some d → Sm (f d) (g o ρ) ρ) : Sm ((rd c q ρ).bind f) ((opd c ev ρ).bind g) ρ := by
  have gen : Sm (((q ρ).bind fun r => .ok r.2).bind f) (((ev ρ).bind fun r ρ' => .ok (.val r.2) ρ').bind g) ρ := by
    cases e : q ρ with
    | ok r =>
      rw [e] at h
      have h : ev ρ = .ok r ρ := h
      rw [h]
      exact k (.val r.2) r.2 rfl
    | exc x =>
      rw [e] at h
      have h : ev ρ = .exc x ρ := h
      rw [h]
      rfl
    | bad => trivial
  cases c with
  | wr ds => trivial
  | var i =>
    show Sm ((rdV ρ[i]?).bind f) ((match ρ[i]? with
      | some (.own _) => .ok (.at i) ρ
      | some (.shr d) => .ok (.val d) ρ
      | _ => .bad : Out Opd).bind g) ρ
    cases e : ρ[i]? with
    | none => trivial
    | some s =>
      cases s with
      | emp => trivial
      | shr d => exact k (.val d) d rfl
      | own d => exact k (.at i) d (by simp [res, e, slotD])
  | _ => exact gen
theorem Sm.opdW {c : CE} {q : Env → PO Rs} {ev : Env → Out Rs} {f : D → PO β} {g : Opd → Env → Out β} (h : Sm (q ρ) (ev ρ) ρ) (k : ∀ o d, resW ρ o = some d → Sm (f d) (g o ρ) ρ) : Sm ((rdW c q ρ).bind f) ((Mi.opd c ev ρ).bind g) ρ := by
  have gen : Sm (((q ρ).bind fun r => .ok r.2).bind f) (((ev ρ).bind fun r ρ' => .ok (.val r.2) ρ').bind g) ρ := by
    cases e : q ρ with
    | ok r =>
      rw [e] at h
      have h : ev ρ = .ok r ρ := h
      rw [h]
      exact k (.val r.2) r.2 rfl
    | exc x =>
      rw [e] at h
      have h : ev ρ = .exc x ρ := h
      rw [h]
      rfl
    | bad => trivial
  cases c with
  | wr ds => exact k (.wr ds) (.tuple ds) rfl
  | var i =>
    show Sm ((rdV ρ[i]?).bind f) ((match ρ[i]? with
      | some (.own _) => .ok (.at i) ρ
      | some (.shr d) => .ok (.val d) ρ
      | _ => .bad : Out Opd).bind g) ρ
    cases e : ρ[i]? with
    | none => trivial
    | some s =>
      cases s with
      | emp => trivial
      | shr d => exact k (.val d) d rfl
      | own d => exact k (.at i) d (by simp [resW, res, e, slotD])
  | _ => exact gen
theorem Sm.wk {c : CE} {q : Env → PO Rs} {ev : Env → Out Rs} (h : Sm (q ρ) (ev ρ) ρ) : Sm (wk c q ρ) (walkV c ev ρ) ρ := by
  have gen : Sm ((q ρ).bind fun r => liftP ((itemsW r.2).map fun xs => (xs, none))) ((((ev ρ).bind fun r ρ' => .ok (.val r.2) ρ') : Out Opd).bind fun o ρ1 => match o with
    | .val d => Mi.lift ((itemsW d).map fun xs => (xs, none)) ρ1
    | .wr _ => .bad
    | .at i => match ρ1[i]? with
      | some (.own (.list xs)) => .ok (xs, some i) ρ1
      | _ => .bad) ρ := by
    cases e : q ρ with
    | ok r =>
      rw [e] at h
      have h : ev ρ = .ok r ρ := h
      rw [h]
      exact Sm.lift
    | exc x =>
      rw [e] at h
      have h : ev ρ = .exc x ρ := h
      rw [h]
      rfl
    | bad => trivial
  cases c with
  | wr ds => trivial
  | var i =>
    show Sm (wkV i ρ[i]?) ((match ρ[i]? with
      | some (.own _) => .ok (.at i) ρ
      | some (.shr d) => .ok (.val d) ρ
      | _ => .bad : Out Opd).bind _) ρ
    cases e : ρ[i]? with
    | none => trivial
    | some s =>
      cases s with
      | emp => trivial
      | shr d => exact Sm.lift
      | own d =>
        cases d with
        | list xs => simp [Out.bind, e, Sm]
        | _ => trivial
  | _ => exact gen
theorem Sm.wkE {c : CE} {q : Env → PO Rs} {ev : Env → Out Rs} (h : Sm (q ρ) (ev ρ) ρ) : Sm (wkE c q ρ) (walkE c ev ρ) ρ := by
  have gen : Sm ((q ρ).bind fun r => if noStr r.2 = true then liftP ((itemsW r.2).map fun xs => (enumD xs, none)) else .bad) ((((ev ρ).bind fun r ρ' => .ok (.val r.2) ρ') : Out Opd).bind fun o ρ1 => match o with
    | .val d => if noStr d = true then Mi.lift ((itemsW d).map fun xs => (xs.mapIdx fun i x => .tuple [.int i, x], none)) ρ1 else .bad
    | .wr _ => .bad
    | .at i => match ρ1[i]? with
      | some (.own (.list xs)) => .ok (xs.mapIdx fun i x => .tuple [.int i, x], some i) ρ1
      | _ => .bad) ρ := by
    cases e : q ρ with
    | ok r =>
      rw [e] at h
      have h : ev ρ = .ok r ρ := h
      rw [h]
      exact Sm.ite (fun _ => Sm.lift) fun _ => Sm.bad
    | exc x =>
      rw [e] at h
      have h : ev ρ = .exc x ρ := h
      rw [h]
      rfl
    | bad => trivial
  cases c with
  | wr ds => trivial
  | var i =>
    show Sm (wkEV i ρ[i]?) ((match ρ[i]? with
      | some (.own _) => .ok (.at i) ρ
      | some (.shr d) => .ok (.val d) ρ
      | _ => .bad : Out Opd).bind _) ρ
    cases e : ρ[i]? with
    | none => trivial
    | some s =>
      cases s with
      | emp => trivial
      | shr d => exact Sm.ite (fun _ => Sm.lift) fun _ => Sm.bad
      | own d =>
        cases d with
        | list xs => simp [Out.bind, e, Sm, enumD]
        | _ => trivial
  | _ => exact gen
theorem flat_turns {tg : Tg} {vs : List Nat} {f : Env → PO (List α)} {g : Env → Out (List α)} {ρ₀ : Env} (hv : ∀ i ∈ tgL tg, i ∈ vs) (h : ∀ ρ, Sm (f ρ) (g ρ) ρ) : ∀ (xs : List D) (ys : List α) (σ : Env), wipeE σ vs = wipeE ρ₀ vs →
    flatP (fun x => match setT tg x (wipeE ρ₀ vs) with
      | none => .bad
      | some ρ1 => f ρ1) xs = .ok ys → ∃ σ', turns tg vs g xs σ = .ok ys σ' ∧ wipeE σ' vs = wipeE ρ₀ vs
  | [], ys, σ, e, z => by
    cases z
    exact ⟨σ, rfl, e⟩
  | x :: xs, ys, σ, e, z => by
    rw [flatP] at z
    rw [turns, e]
    cases e1 : setT tg x (wipeE ρ₀ vs) with
    | none => rw [e1] at z; cases z
    | some ρ1 =>
      rw [e1] at z
      simp only at z ⊢
      cases e2 : f ρ1 with
      | ok us =>
        rw [e2] at z
        have e3 := h ρ1
        rw [e2] at e3
        have e3 : g ρ1 = .ok us ρ1 := e3
        simp only at z
        cases e4 : flatP (fun x => match setT tg x (wipeE ρ₀ vs) with
            | none => .bad
            | some ρ1 => f ρ1) xs with
        | ok zs =>
          rw [e4] at z
          cases z
          obtain ⟨σ', h1, h2⟩ := flat_turns hv h xs zs ρ1 (setT_wipe hv e1) e4
          exact ⟨σ', by simp only [e3, h1], h2⟩
        | exc x => rw [e4] at z; cases z
        | bad => rw [e4] at z; cases z
      | exc x => rw [e2] at z; cases z
      | bad => rw [e2] at z; cases z
theorem flatP_noexc {γ : Type} {f : γ → PO (List α)} {x : Exn} : ∀ xs, flatP f xs ≠ .exc x
  | [] => nofun
  | y :: r => by
    rw [flatP]
    split
    · split <;> nofun
    · nofun
theorem Sm.blk {tg : Tg} {vs : List Nat} {f : Env → PO (List α)} {g : Env → Out (List α)} {xl : Wk} (h : ∀ ρ, Sm (f ρ) (g ρ) ρ) : Sm (blkP vs tg f xl ρ) (blkV vs tg g xl ρ) ρ := by
  unfold blkP
  split
  · rename_i hv
    have hv : ∀ i ∈ tgL tg, i ∈ vs := fun i hi => by
      rw [List.all_eq_true] at hv
      simpa using hv i hi
    obtain ⟨xs, l⟩ := xl
    show Sm (flatP (fun x => match setT tg x (wipeE (lockE ρ l) vs) with
      | none => .bad
      | some ρ1 => f ρ1) xs) _ ρ
    cases e : flatP (fun x => match setT tg x (wipeE (lockE ρ l) vs) with
      | none => .bad
      | some ρ1 => f ρ1) xs with
    | ok ys =>
      obtain ⟨σ', h1, h2⟩ := flat_turns hv h xs ys (lockE ρ l) rfl e
      show blkV vs tg g (xs, l) ρ = .ok ys ρ
      unfold blkV
      simp only [h1]
      have hl : ρ.length = σ'.length := by
        have := congrArg List.length h2
        rw [wipeE_length, wipeE_length, lockE_length] at this
        exact this.symm
      rw [back_same hl fun k hk => ?_]
      have hv' : k ∉ vs := fun z => hk (List.mem_append_left _ z)
      have hl' : l ≠ some k := fun z => hk (List.mem_append_right _ (by rw [z]; simp [lockL]))
      have := congrArg (fun r : Env => r[k]?) h2
      simp only [wipeE_not hv'] at this
      rw [this]
      cases l with
      | none => rfl
      | some j => exact List.getElem?_set_ne fun e => hl' (by rw [e])
    | exc x => exact absurd e (flatP_noexc xs)
    | bad => trivial
  · trivial
def SmA (cf : Cf) (p : PO (List Slot)) (o : Out (List ArgV)) (ρ : Env) : Prop := match p with
  | .ok ss => ∃ as, o = .ok as ρ ∧ argSlots ρ as = some ss ∧ argRefs as = []
  | .exc x => o = .exc x ρ
  | .bad => True
theorem putOuts_none : ∀ (as : List ArgV) (ss : List Slot) (ρ : Env), argRefs as = [] → putOuts as ss ρ = ρ
  | [], ss, ρ, _ => by cases ss <;> rfl
  | .val _ :: r, [], ρ, _ => rfl
  | .val _ :: r, _ :: ss, ρ, h => putOuts_none r ss ρ h
  | .ref _ :: _, _, _, h => by cases h
theorem SmA.call {cf : Cf} {p : PO (List Slot)} {o : Out (List ArgV)} {f : Str} (h : SmA cf p o ρ) : Sm (p.bind fun ss => callP cf f ss) (o.bind fun as ρ' => callV cf f as ρ') ρ := by
  cases p with
  | ok ss =>
    obtain ⟨as, rfl, h2, h3⟩ := h
    show Sm (callP cf f ss) (callV cf f as ρ) ρ
    unfold callP callV
    rw [h2]
    simp only [h3, List.nodup_nil, if_true]
    cases e : cf.call f ss with
    | ret r outs => show Out.ok r (putOuts as outs ρ) = _; rw [putOuts_none _ _ _ h3]
    | exc x => show Out.exc x (putOuts as _ ρ) = _; rw [putOuts_none _ _ _ h3]
    | bad => trivial
  | exc x =>
    have e : o = .exc x ρ := h
    rw [e]
    rfl
  | bad => trivial
end
mutual
theorem evP_sm (cf : Cf) : ∀ c : CE, (∀ ρ, Sm ((evP cf c).1 ρ) (evE cf c ρ) ρ) ∧ ∀ ρ, Sm ((evP cf c).2 ρ) (evI cf c ρ) ρ
  | .cst d => both (fun ρ => by rw [evE]; exact Sm.ok) fun ρ => by rw [evI] <;> nofun
  | .var i => both (fun ρ => by
      rw [evE]
      show Sm (shrV ρ[i]?) _ ρ
      cases e : ρ[i]? with
      | none => trivial
      | some s => cases s <;> first | trivial | rfl) fun ρ => by rw [evI] <;> nofun
  | .tup es => both (fun ρ => by rw [evE]; exact Sm.bind (evPL_sm cf es ρ) fun ds => Sm.ite (fun _ => Sm.ok) fun _ => Sm.bad) fun ρ => by rw [evI] <;> nofun
  | .lst es => both (fun ρ => by rw [evE]; exact Sm.bind (evPL_sm cf es ρ) fun ds => Sm.ite (fun _ => Sm.ok) fun _ => Sm.bad) fun ρ => by rw [evI] <;> nofun
  | .bin op a b => both (fun ρ => by rw [evE]; exact Sm.opd ((evP_sm cf a).1 ρ) fun o x hx => Sm.opd ((evP_sm cf b).1 ρ) fun o' y hy => by rw [hx, hy]; exact Sm.lift) fun ρ => by rw [evI] <;> nofun
  | .neg a => both (fun ρ => by rw [evE]; exact Sm.bind ((evP_sm cf a).1 ρ) fun x => Sm.lift) fun ρ => by rw [evI] <;> nofun
  | .cmp op a b => both (fun ρ => by rw [evE]; exact Sm.opd ((evP_sm cf a).1 ρ) fun o x hx => Sm.opd ((evP_sm cf b).1 ρ) fun o' y hy => by rw [hx, hy]; exact Sm.lift) fun ρ => by rw [evI] <;> nofun
  | .chn op op' a b c => both (fun ρ => by
      rw [evE]
      exact Sm.bind ((evP_sm cf a).1 ρ) fun x => Sm.bind ((evP_sm cf b).1 ρ) fun y => Sm.bind Sm.lift fun t => Sm.ite (fun _ => Sm.bind ((evP_sm cf c).1 ρ) fun z => Sm.lift) fun _ => Sm.ok) fun ρ => by rw [evI] <;> nofun
  | .isin ng a b => both (fun ρ => by rw [evE]; exact Sm.bind ((evP_sm cf a).1 ρ) fun x => Sm.opdW ((evP_sm cf b).1 ρ) fun o y hy => by rw [hy]; exact Sm.lift) fun ρ => by rw [evI] <;> nofun
  | .wr ds => both (fun ρ => Sm.bad) fun ρ => by rw [evI] <;> nofun
  | .isn ng a => both (fun ρ => by
      rw [evE]
      exact Sm.opd ((evP_sm cf a).1 ρ) fun o x hx => by
        rw [hx]
        cases x <;> rfl) fun ρ => by rw [evI] <;> nofun
  | .not a => both (fun ρ => by rw [evE]; exact Sm.bind ((evP_sm cf a).1 ρ) fun x => Sm.lift) fun ρ => by rw [evI] <;> nofun
  | .and a b => both (fun ρ => by
      rw [evE]
      exact Sm.bind ((evP_sm cf a).1 ρ) fun x => Sm.bind Sm.lift fun t => Sm.ite (fun _ => Sm.bind ((evP_sm cf b).1 ρ) fun y => Sm.bind Sm.lift fun u => Sm.ok) fun _ => Sm.ok) fun ρ => by rw [evI] <;> nofun
  | .or a b => both (fun ρ => by
      rw [evE]
      exact Sm.bind ((evP_sm cf a).1 ρ) fun x => Sm.bind Sm.lift fun t => Sm.ite (fun _ => Sm.ok) fun _ => Sm.bind ((evP_sm cf b).1 ρ) fun y => Sm.bind Sm.lift fun u => Sm.ok) fun ρ => by rw [evI] <;> nofun
  | .ite c a b => both (fun ρ => by
      rw [evE]
      exact Sm.bind ((evP_sm cf c).1 ρ) fun x => Sm.bind Sm.lift fun t => Sm.ite (fun _ => (evP_sm cf a).1 ρ) fun _ => (evP_sm cf b).1 ρ) fun ρ => by rw [evI] <;> nofun
  | .idx a b => both (fun ρ => by rw [evE]; exact Sm.opd ((evP_sm cf a).1 ρ) fun o x hx => Sm.bind ((evP_sm cf b).1 ρ) fun y => by rw [hx]; exact Sm.lift) fun ρ => by rw [evI] <;> nofun
  | .sl0 a => both (fun ρ => by rw [evE]; exact Sm.opd ((evP_sm cf a).1 ρ) fun o x hx => by rw [hx]; exact Sm.lift) fun ρ => by rw [evI] <;> nofun
  | .sl1 a b => both (fun ρ => by rw [evE]; exact Sm.opd ((evP_sm cf a).1 ρ) fun o x hx => Sm.bind ((evP_sm cf b).1 ρ) fun y => by rw [hx]; exact Sm.lift) fun ρ => by rw [evI] <;> nofun
  | .sl2 a b => both (fun ρ => by rw [evE]; exact Sm.opd ((evP_sm cf a).1 ρ) fun o x hx => Sm.bind ((evP_sm cf b).1 ρ) fun y => by rw [hx]; exact Sm.lift) fun ρ => by rw [evI] <;> nofun
  | .sl3 a b c => both (fun ρ => by rw [evE]; exact Sm.opd ((evP_sm cf a).1 ρ) fun o x hx => Sm.bind ((evP_sm cf b).1 ρ) fun y => Sm.bind Sm.lift fun i => Sm.bind ((evP_sm cf c).1 ρ) fun z => by rw [hx]; exact Sm.lift) fun ρ => by rw [evI] <;> nofun
  | .rev a => both (fun ρ => by
      rw [evE]
      exact Sm.opd ((evP_sm cf a).1 ρ) fun o x hx => by
        rw [hx]
        cases x <;> first | rfl | trivial) fun ρ => by rw [evI] <;> nofun
  | .b1 f a => both (fun ρ => by rw [evE]; exact Sm.opd ((evP_sm cf a).1 ρ) fun o x hx => by rw [hx]; exact Sm.lift) fun ρ => by rw [evI] <;> nofun
  | .b2 f a b => both (fun ρ => by rw [evE]; exact Sm.bind ((evP_sm cf a).1 ρ) fun x => Sm.bind ((evP_sm cf b).1 ρ) fun y => Sm.lift) fun ρ => by rw [evI] <;> nofun
  | .get a b c => both (fun ρ => by
      rw [evE]
      exact Sm.opd ((evP_sm cf a).1 ρ) fun o x hx => Sm.bind ((evP_sm cf b).1 ρ) fun y => Sm.bind ((evP_sm cf c).1 ρ) fun z => by
        rw [hx]
        cases x with
        | dict kvs =>
          show Sm (if fitsK kvs y.2 = true then PO.ok (false, (getK kvs y.2).getD z.2) else .bad) (Mi.lift (if fitsK kvs y.2 = true then some (false, (getK kvs y.2).getD z.2) else none) ρ) ρ
          split <;> first | rfl | trivial
        | _ => trivial) fun ρ => by rw [evI] <;> nofun
  | .isi a ts => both (fun ρ => by
      rw [evE]
      exact Sm.opd ((evP_sm cf a).1 ρ) fun o x hx => by
        rw [hx]
        show Sm (if isiOk x = true then PO.ok (false, PyData.bool (tyOf x ts)) else .bad) (Mi.lift (if isiOk x = true then some (false, PyData.bool (tyOf x ts)) else none) ρ) ρ
        split <;> first | rfl | trivial) fun ρ => by rw [evI] <;> nofun
  | .call f es => both (fun ρ => by rw [evE]; exact SmA.call (cf := cf) (evPA_sm cf (cf.sig f) 0 es ρ)) fun ρ => by rw [evI] <;> nofun
  | .pop i => both (fun ρ => Sm.bad) fun ρ => by rw [evI] <;> nofun
  | .popAt i a => both (fun ρ => Sm.bad) fun ρ => by rw [evI] <;> nofun
  | .lrng a => both (fun ρ => by rw [evE]; exact Sm.bind ((evP_sm cf a).1 ρ) fun x => Sm.lift) fun ρ => by rw [evI] <;> nofun
  | .rng1 a => ⟨fun ρ => Sm.bad, fun ρ => by rw [evI]; exact Sm.bind ((evP_sm cf a).1 ρ) fun x => Sm.lift⟩
  | .rng2 a b => ⟨fun ρ => Sm.bad, fun ρ => by rw [evI]; exact Sm.bind ((evP_sm cf a).1 ρ) fun x => Sm.bind ((evP_sm cf b).1 ρ) fun y => Sm.lift⟩
  | .rng3 a b c => ⟨fun ρ => Sm.bad, fun ρ => by rw [evI]; exact Sm.bind ((evP_sm cf a).1 ρ) fun x => Sm.bind ((evP_sm cf b).1 ρ) fun y => Sm.bind ((evP_sm cf c).1 ρ) fun z => Sm.lift⟩
  | .enm a => ⟨fun ρ => Sm.bad, fun ρ => by rw [evI]; exact Sm.wkE ((evP_sm cf a).1 ρ)⟩
  | .zp a b => ⟨fun ρ => Sm.bad, fun ρ => by
      rw [evI]
      exact Sm.bind ((evP_sm cf a).1 ρ) fun x => Sm.bind ((evP_sm cf b).1 ρ) fun y => by
        obtain ⟨_, x⟩ := x
        obtain ⟨_, y⟩ := y
        cases x <;> cases y <;> first | rfl | trivial⟩
  | .itm a => both (fun ρ => Sm.bad) fun ρ => by rw [evI] <;> nofun
  | .lc vs elt tg it => both (fun ρ => by
      rw [evE]
      exact Sm.bind ((evP_sm cf it).2 ρ) fun xl => Sm.ite (fun _ => Sm.bind (Sm.blk fun ρ => Sm.bind ((evP_sm cf elt).1 ρ) fun r => Sm.ok) fun ys => Sm.ok) fun _ => Sm.bad) fun ρ => by rw [evI] <;> nofun
  | .lcf vs elt tg it c => both (fun ρ => by
      rw [evE]
      exact Sm.bind ((evP_sm cf it).2 ρ) fun xl => Sm.ite (fun _ => Sm.bind (Sm.blk fun ρ => Sm.bind ((evP_sm cf c).1 ρ) fun t => Sm.bind Sm.lift fun t => Sm.ite (fun _ => Sm.bind ((evP_sm cf elt).1 ρ) fun r => Sm.ok) fun _ => Sm.ok) fun ys => Sm.ok) fun _ => Sm.bad) fun ρ => by rw [evI] <;> nofun
  | .lc2 vs vs2 elt tg it tg2 it2 => both (fun ρ => by
      rw [evE]
      exact Sm.bind ((evP_sm cf it).2 ρ) fun xl => Sm.bind (Sm.blk fun ρ => Sm.bind ((evP_sm cf it2).2 ρ) fun xl2 => Sm.blk fun ρ => Sm.bind ((evP_sm cf elt).1 ρ) fun r => Sm.ok) fun ys => Sm.ite (fun _ => Sm.ok) fun _ => Sm.bad) fun ρ => by rw [evI] <;> nofun
  | .dc vs k v tg it => both (fun ρ => by
      rw [evE]
      exact Sm.bind ((evP_sm cf it).2 ρ) fun xl => Sm.ite (fun _ => Sm.bind (Sm.blk fun ρ => Sm.bind ((evP_sm cf k).1 ρ) fun x => Sm.bind ((evP_sm cf v).1 ρ) fun y => Sm.ok) fun ys => Sm.lift) fun _ => Sm.bad) fun ρ => by rw [evI] <;> nofun
  | .dc2 vs vs2 k v tg it tg2 it2 => both (fun ρ => by
      rw [evE]
      exact Sm.bind ((evP_sm cf it).2 ρ) fun xl => Sm.bind (Sm.blk fun ρ => Sm.bind ((evP_sm cf it2).2 ρ) fun xl2 => Sm.blk fun ρ => Sm.bind ((evP_sm cf k).1 ρ) fun x => Sm.bind ((evP_sm cf v).1 ρ) fun y => Sm.ok) fun ys => Sm.ite (fun _ => Sm.lift) fun _ => Sm.bad) fun ρ => by rw [evI] <;> nofun
  | .dsp ks vs => both (fun ρ => Sm.bad) fun ρ => by rw [evI] <;> nofun
  | .star => both (fun ρ => Sm.bad) fun ρ => by rw [evI] <;> nofun
where
  both {cf : Cf} {c : CE} {p : Env → PO Rs} (h : ∀ ρ, Sm (p ρ) (evE cf c ρ) ρ) (k : ∀ ρ, evI cf c ρ = walkV c (evE cf c) ρ) : (∀ ρ, Sm ((pkP c p).1 ρ) (evE cf c ρ) ρ) ∧ ∀ ρ, Sm ((pkP c p).2 ρ) (evI cf c ρ) ρ :=
    ⟨h, fun ρ => by rw [k]; exact Sm.wk (h ρ)⟩
theorem evPL_sm (cf : Cf) : ∀ (es : List CE) (ρ : Env), Sm (evPL cf es ρ) (evL cf es ρ) ρ
  | [], ρ => by rw [evL]; exact Sm.ok
  | e :: es, ρ => by rw [evL]; exact Sm.bind ((evP_sm cf e).1 ρ) fun r => Sm.bind (evPL_sm cf es ρ) fun ds => Sm.ok
theorem evPA_sm (cf : Cf) : ∀ (mu : List Nat) (j : Nat) (es : List CE) (ρ : Env), SmA cf (evPA cf mu j es ρ) (evA cf mu j es ρ) ρ
  | mu, j, [], ρ => by rw [evA]; exact ⟨[], rfl, rfl, rfl⟩
  | mu, j, e :: es, ρ => by
    rw [evA]
    have h := (evP_sm cf e).1 ρ
    have ih := evPA_sm cf mu (j + 1) es ρ
    have one : ∀ {s : Slot}, (arg1 (mu.contains j) e (evE cf e) ρ = .ok (.val s) ρ) → SmA cf ((evPA cf mu (j + 1) es ρ).bind fun as => .ok (s :: as)) ((arg1 (mu.contains j) e (evE cf e) ρ).bind fun a ρ1 => (evA cf mu (j + 1) es ρ1).bind fun as ρ2 => .ok (a :: as) ρ2) ρ := fun {s} e1 => by
      rw [e1]
      show SmA cf _ ((evA cf mu (j + 1) es ρ).bind fun as ρ2 => .ok (.val s :: as) ρ2) ρ
      cases e2 : evPA cf mu (j + 1) es ρ with
      | ok ss =>
        rw [e2] at ih
        obtain ⟨as, h1, h2, h3⟩ := ih
        rw [h1]
        exact ⟨.val s :: as, rfl, by rw [argSlots, h2]; rfl, h3⟩
      | exc x =>
        rw [e2] at ih
        have ih : evA cf mu (j + 1) es ρ = .exc x ρ := ih
        rw [ih]
        rfl
      | bad => trivial
    have gen : ∀ (fn : Rs → Slot), arg1 (mu.contains j) e (evE cf e) ρ = ((evE cf e ρ).bind fun r ρ' => .ok (.val (fn r)) ρ') → SmA cf ((((evP cf e).1 ρ).bind fun r => .ok (fn r)).bind fun a => (evPA cf mu (j + 1) es ρ).bind fun as => .ok (a :: as)) ((arg1 (mu.contains j) e (evE cf e) ρ).bind fun a ρ1 => (evA cf mu (j + 1) es ρ1).bind fun as ρ2 => .ok (a :: as) ρ2) ρ := fun fn ea => by
      cases e1 : (evP cf e).1 ρ with
      | ok r =>
        rw [e1] at h
        have h : evE cf e ρ = .ok r ρ := h
        exact one (s := fn r) (by rw [ea, h]; rfl)
      | exc x =>
        rw [e1] at h
        have h : evE cf e ρ = .exc x ρ := h
        rw [ea, h]
        rfl
      | bad => trivial
    show SmA cf ((argP (mu.contains j) e (evP cf e).1 ρ).bind fun a => (evPA cf mu (j + 1) es ρ).bind fun as => .ok (a :: as)) _ ρ
    cases hm : mu.contains j with
    | false =>
      unfold argP
      rw [if_neg (by simp)]
      rw [hm] at gen
      exact gen (fun r => .shr r.2) (by unfold arg1; rw [if_neg (by simp)])
    | true =>
      unfold argP
      rw [if_pos rfl]
      rw [hm] at gen one
      cases e with
      | var i =>
        show SmA cf (((shrV ρ[i]?).bind fun r => PO.ok (Slot.shr r.2)).bind fun a => (evPA cf mu (j + 1) es ρ).bind fun as => PO.ok (a :: as)) _ ρ
        cases ei : ρ[i]? with
        | none => trivial
        | some s =>
          cases s with
          | emp => trivial
          | own d => trivial
          | shr d => exact one (s := .shr d) (by unfold arg1; rw [if_pos rfl]; simp only [ei])
      | _ => exact gen (fun r => mk r.1 r.2) (by unfold arg1; rw [if_pos rfl])
end
def evE₀ := @evE
def evI₀ := @evI
def sel {α : Type} (p : PO α) (ρ : Env) (o : Out α) : Out α := match p with
  | .ok a => .ok a ρ
  | .exc x => .exc x ρ
  | .bad => o
@[simp] theorem sel_ok {α : Type} (a : α) (ρ : Env) (o : Out α) : sel (.ok a) ρ o = .ok a ρ := (rfl)
@[simp] theorem sel_exc {α : Type} (a : Exn) (ρ : Env) (o : Out α) : sel (.exc a) ρ o = .exc a ρ := (rfl)
theorem Sm.sel {α : Type} {p : PO α} {o : Out α} {ρ : Env} (h : Sm p o ρ) : o = Mi.sel p ρ o := by
  cases p with
  | ok a => exact h
  | exc a => exact h
  | bad => rfl
def evV (cf : Cf) (c : CE) (ρ : Env) : PO Rs := (evP cf c).1 ρ
def evW (cf : Cf) (c : CE) (ρ : Env) : PO Wk := (evP cf c).2 ρ
theorem evE_sel (cf : Cf) (c : CE) (ρ : Env) : evE cf c ρ = sel (evV cf c ρ) ρ (evE₀ cf c ρ) := ((evP_sm cf c).1 ρ).sel
theorem evI_sel (cf : Cf) (c : CE) (ρ : Env) : evI cf c ρ = sel (evW cf c ρ) ρ (evI₀ cf c ρ) := ((evP_sm cf c).2 ρ).sel
end Mi
end
section
namespace Mi
open PySem
section
variable (cf : Cf) (ρ : Env)
def wrapK (r : Rs) : PO (List D) := .ok [r.2]
@[simp] theorem wrapK_eq (r : Rs) : wrapK r = .ok [r.2] := (rfl)
def lstK (ys : List D) : PO Rs := .ok (true, .list ys)
@[simp] theorem lstK_eq (ys : List D) : lstK ys = .ok (true, .list ys) := (rfl)
def lstK2 (ys : List D) : PO Rs := if ys.length ≤ sizeLine then .ok (true, .list ys) else .bad
@[simp] theorem lstK2_eq (ys : List D) : lstK2 ys = if ys.length ≤ sizeLine then .ok (true, .list ys) else .bad := (rfl)
def oneK (cf : Cf) (elt : CE) (ρ : Env) : PO (List D) := (evV cf elt ρ).bind wrapK
@[simp] theorem oneK_eq (cf : Cf) (elt : CE) (ρ : Env) : oneK cf elt ρ = (evV cf elt ρ).bind wrapK := (rfl)
def ifK (cf : Cf) (c elt : CE) (ρ : Env) : PO (List D) := (evV cf c ρ).bind fun t => (liftP (tru t.2)).bind fun t => if t = true then (evV cf elt ρ).bind wrapK else .ok []
@[simp] theorem ifK_eq (cf : Cf) (c elt : CE) (ρ : Env) : ifK cf c elt ρ = (evV cf c ρ).bind fun t => (liftP (tru t.2)).bind fun t => if t = true then (evV cf elt ρ).bind wrapK else .ok [] := (rfl)
def dicK (cf : Cf) (k v : CE) (ρ : Env) : PO (List (D × D)) := (evV cf k ρ).bind fun x => (evV cf v ρ).bind fun y => .ok [(x.2, y.2)]
@[simp] theorem dicK_eq (cf : Cf) (k v : CE) (ρ : Env) : dicK cf k v ρ = (evV cf k ρ).bind fun x => (evV cf v ρ).bind fun y => .ok [(x.2, y.2)] := (rfl)
def dcfK (ps : List (D × D)) : PO Rs := liftP (dictF ps)
@[simp] theorem dcfK_eq (ps : List (D × D)) : dcfK ps = liftP (dictF ps) := (rfl)
def dcfK2 (ps : List (D × D)) : PO Rs := if ps.length ≤ sizeLine then liftP (dictF ps) else .bad
@[simp] theorem dcfK2_eq (ps : List (D × D)) : dcfK2 ps = if ps.length ≤ sizeLine then liftP (dictF ps) else .bad := (rfl)
def blkB {α : Type} (tg : Tg) (f : Env → PO (List α)) (ρ : Env) (x : D) : PO (List α) := match setT tg x ρ with
  | none => .bad
  | some ρ1 => f ρ1
@[simp] theorem blkB_nm {α : Type} (i : Nat) (f : Env → PO (List α)) (ρ : Env) (x : D) : blkB (.nm i) f ρ x = f (ρ.set i (.shr x)) := (rfl)
@[simp] theorem blkB_tp2 {α : Type} (i j : Nat) (f : Env → PO (List α)) (ρ : Env) (x y : D) : blkB (.tp [i, j]) f ρ (.tuple [x, y]) = f ((ρ.set i (.shr x)).set j (.shr y)) := (rfl)
@[simp] theorem blkB_tp3 {α : Type} (i j k : Nat) (f : Env → PO (List α)) (ρ : Env) (x y z : D) : blkB (.tp [i, j, k]) f ρ (.tuple [x, y, z]) = f (((ρ.set i (.shr x)).set j (.shr y)).set k (.shr z)) := (rfl)
@[simp] theorem blkP_eq {α : Type} (vs : List Nat) (tg : Tg) (f : Env → PO (List α)) (xs : List D) (l : Option Nat) (ρ : Env) (h : (tgL tg).all (fun i => vs.contains i) = true) : blkP vs tg f (xs, l) ρ = flatP (blkB tg f (wipeE (lockE ρ l) vs)) xs := by
  unfold blkP
  rw [if_pos h]
  rfl
def blk2K {α : Type} (vs : List Nat) (tg : Tg) (f : Env → PO (List α)) (ρ : Env) (xl : Wk) : PO (List α) := blkP vs tg f xl ρ
@[simp] theorem blk2K_eq {α : Type} (vs : List Nat) (tg : Tg) (f : Env → PO (List α)) (ρ : Env) (xl : Wk) : blk2K vs tg f ρ xl = blkP vs tg f xl ρ := (rfl)
def lenK {α : Type} (f : Wk → PO α) (xl : Wk) : PO α := if xl.1.length ≤ sizeLine then f xl else .bad
@[simp] theorem lenK_eq {α : Type} (f : Wk → PO α) (xs : List D) (l : Option Nat) : lenK f (xs, l) = if xs.length ≤ sizeLine then f (xs, l) else .bad := (rfl)
def innK {α : Type} (cf : Cf) (it : CE) (f : Env → Wk → PO (List α)) (ρ : Env) : PO (List α) := (evW cf it ρ).bind (f ρ)
@[simp] theorem innK_eq {α : Type} (cf : Cf) (it : CE) (f : Env → Wk → PO (List α)) (ρ : Env) : innK cf it f ρ = (evW cf it ρ).bind (f ρ) := (rfl)
def rng1K (x : Rs) : PO Wk := liftP ((asInt x.2).bind fun i => if rngOk i = true then some (rngD 0 i.toNat, none) else none)
def rng2K (x y : Rs) : PO Wk := liftP ((asInt x.2).bind fun i => (asInt y.2).bind fun j => if rngOk i = true ∧ rngOk j = true then some (rngD i (j - i).toNat, none) else none)
def rng3K (x y z : Rs) : PO Wk := liftP ((asInt x.2).bind fun i => (asInt y.2).bind fun j => (asInt z.2).bind fun k => if k = -1 ∧ rngOk i = true ∧ rngOk j = true then some (rngDn i (i - j).toNat, none) else none)
def lrngK (x : Rs) : PO Rs := liftP ((asInt x.2).bind fun i => if rngOk i = true ∧ i.toNat ≤ sizeLine then some (true, PyData.list (rngD 0 i.toNat)) else none)
def thenK {α β γ : Type} (f : α → PO β) (g : β → PO γ) (x : α) : PO γ := (f x).bind g
@[simp] theorem thenK_eq {α β γ : Type} (f : α → PO β) (g : β → PO γ) (x : α) : thenK f g x = (f x).bind g := (rfl)
@[simp] theorem evV_cst (d : D) : evV cf (.cst d) ρ = (.ok (false, d)) := (rfl)
@[simp] theorem evW_cst (d : D) : evW cf (.cst d) ρ = wk (.cst d) (evV cf (.cst d)) ρ := (rfl)
@[simp] theorem nV_cst (d : D) : isVar (.cst d) = false := (rfl)
@[simp] theorem rd_cst (d : D) (p : Env → PO Rs) : rd (.cst d) p ρ = (p ρ).bind fun r => .ok r.2 := (rfl)
@[simp] theorem rdW_cst (d : D) (p : Env → PO Rs) : rdW (.cst d) p ρ = (p ρ).bind fun r => .ok r.2 := (rfl)
@[simp] theorem wk_cst (d : D) (p : Env → PO Rs) : wk (.cst d) p ρ = (p ρ).bind fun r => liftP ((itemsW r.2).map fun xs => (xs, none)) := (rfl)
@[simp] theorem wkE_cst (d : D) (p : Env → PO Rs) : wkE (.cst d) p ρ = (p ρ).bind fun r => if noStr r.2 = true then liftP ((itemsW r.2).map fun xs => (enumD xs, none)) else .bad := (rfl)
@[simp] theorem argP_t_cst (d : D) (p : Env → PO Rs) : argP true (.cst d) p ρ = (p ρ).bind fun r => .ok (mk r.1 r.2) := (rfl)
@[simp] theorem evV_var (i : Nat) : evV cf (.var i) ρ = (shrV ρ[i]?) := (rfl)
@[simp] theorem evW_var (i : Nat) : evW cf (.var i) ρ = wk (.var i) (evV cf (.var i)) ρ := (rfl)
@[simp] theorem evV_tup (es : List CE) : evV cf (.tup es) ρ = ((evPL cf es ρ).bind fun ds => if ds.length ≤ sizeLine then .ok (false, .tuple ds) else .bad) := (rfl)
@[simp] theorem evW_tup (es : List CE) : evW cf (.tup es) ρ = wk (.tup es) (evV cf (.tup es)) ρ := (rfl)
@[simp] theorem nV_tup (es : List CE) : isVar (.tup es) = false := (rfl)
@[simp] theorem rd_tup (es : List CE) (p : Env → PO Rs) : rd (.tup es) p ρ = (p ρ).bind fun r => .ok r.2 := (rfl)
@[simp] theorem rdW_tup (es : List CE) (p : Env → PO Rs) : rdW (.tup es) p ρ = (p ρ).bind fun r => .ok r.2 := (rfl)
@[simp] theorem wk_tup (es : List CE) (p : Env → PO Rs) : wk (.tup es) p ρ = (p ρ).bind fun r => liftP ((itemsW r.2).map fun xs => (xs, none)) := (rfl)
@[simp] theorem wkE_tup (es : List CE) (p : Env → PO Rs) : wkE (.tup es) p ρ = (p ρ).bind fun r => if noStr r.2 = true then liftP ((itemsW r.2).map fun xs => (enumD xs, none)) else .bad := (rfl)
@[simp] theorem argP_t_tup (es : List CE) (p : Env → PO Rs) : argP true (.tup es) p ρ = (p ρ).bind fun r => .ok (mk r.1 r.2) := (rfl)
@[simp] theorem evV_lst (es : List CE) : evV cf (.lst es) ρ = ((evPL cf es ρ).bind fun ds => if ds.length ≤ sizeLine then .ok (true, .list ds) else .bad) := (rfl)
@[simp] theorem evW_lst (es : List CE) : evW cf (.lst es) ρ = wk (.lst es) (evV cf (.lst es)) ρ := (rfl)
@[simp] theorem nV_lst (es : List CE) : isVar (.lst es) = false := (rfl)
@[simp] theorem rd_lst (es : List CE) (p : Env → PO Rs) : rd (.lst es) p ρ = (p ρ).bind fun r => .ok r.2 := (rfl)
@[simp] theorem rdW_lst (es : List CE) (p : Env → PO Rs) : rdW (.lst es) p ρ = (p ρ).bind fun r => .ok r.2 := (rfl)
@[simp] theorem wk_lst (es : List CE) (p : Env → PO Rs) : wk (.lst es) p ρ = (p ρ).bind fun r => liftP ((itemsW r.2).map fun xs => (xs, none)) := (rfl)
@[simp] theorem wkE_lst (es : List CE) (p : Env → PO Rs) : wkE (.lst es) p ρ = (p ρ).bind fun r => if noStr r.2 = true then liftP ((itemsW r.2).map fun xs => (enumD xs, none)) else .bad := (rfl)
@[simp] theorem argP_t_lst (es : List CE) (p : Env → PO Rs) : argP true (.lst es) p ρ = (p ρ).bind fun r => .ok (mk r.1 r.2) := (rfl)
@[simp] theorem evV_bin (op : Operator) (a : CE) (b : CE) : evV cf (.bin op a b) ρ = ((rd a (evV cf a) ρ).bind fun x => (rd b (evV cf b) ρ).bind fun y => liftP (binOp op x y)) := (rfl)
@[simp] theorem evW_bin (op : Operator) (a : CE) (b : CE) : evW cf (.bin op a b) ρ = wk (.bin op a b) (evV cf (.bin op a b)) ρ := (rfl)
@[simp] theorem nV_bin (op : Operator) (a : CE) (b : CE) : isVar (.bin op a b) = false := (rfl)
@[simp] theorem rd_bin (op : Operator) (a : CE) (b : CE) (p : Env → PO Rs) : rd (.bin op a b) p ρ = (p ρ).bind fun r => .ok r.2 := (rfl)
@[simp] theorem rdW_bin (op : Operator) (a : CE) (b : CE) (p : Env → PO Rs) : rdW (.bin op a b) p ρ = (p ρ).bind fun r => .ok r.2 := (rfl)
@[simp] theorem wk_bin (op : Operator) (a : CE) (b : CE) (p : Env → PO Rs) : wk (.bin op a b) p ρ = (p ρ).bind fun r => liftP ((itemsW r.2).map fun xs => (xs, none)) := (rfl)
@[simp] theorem wkE_bin (op : Operator) (a : CE) (b : CE) (p : Env → PO Rs) : wkE (.bin op a b) p ρ = (p ρ).bind fun r => if noStr r.2 = true then liftP ((itemsW r.2).map fun xs => (enumD xs, none)) else .bad := (rfl)
@[simp] theorem argP_t_bin (op : Operator) (a : CE) (b : CE) (p : Env → PO Rs) : argP true (.bin op a b) p ρ = (p ρ).bind fun r => .ok (mk r.1 r.2) := (rfl)
@[simp] theorem evV_neg (a : CE) : evV cf (.neg a) ρ = (((evV cf a) ρ).bind fun x => liftP ((asInt x.2).map fun i => (false, PyData.int (-i)))) := (rfl)
@[simp] theorem evW_neg (a : CE) : evW cf (.neg a) ρ = wk (.neg a) (evV cf (.neg a)) ρ := (rfl)
@[simp] theorem nV_neg (a : CE) : isVar (.neg a) = false := (rfl)
@[simp] theorem rd_neg (a : CE) (p : Env → PO Rs) : rd (.neg a) p ρ = (p ρ).bind fun r => .ok r.2 := (rfl)
@[simp] theorem rdW_neg (a : CE) (p : Env → PO Rs) : rdW (.neg a) p ρ = (p ρ).bind fun r => .ok r.2 := (rfl)
@[simp] theorem wk_neg (a : CE) (p : Env → PO Rs) : wk (.neg a) p ρ = (p ρ).bind fun r => liftP ((itemsW r.2).map fun xs => (xs, none)) := (rfl)
@[simp] theorem wkE_neg (a : CE) (p : Env → PO Rs) : wkE (.neg a) p ρ = (p ρ).bind fun r => if noStr r.2 = true then liftP ((itemsW r.2).map fun xs => (enumD xs, none)) else .bad := (rfl)
@[simp] theorem argP_t_neg (a : CE) (p : Env → PO Rs) : argP true (.neg a) p ρ = (p ρ).bind fun r => .ok (mk r.1 r.2) := (rfl)
@[simp] theorem evV_cmp (op : CmpOp) (a : CE) (b : CE) : evV cf (.cmp op a b) ρ = ((rd a (evV cf a) ρ).bind fun x => (rd b (evV cf b) ρ).bind fun y => liftP ((cmpOp op x y).map fun b => (false, PyData.bool b))) := (rfl)
@[simp] theorem evW_cmp (op : CmpOp) (a : CE) (b : CE) : evW cf (.cmp op a b) ρ = wk (.cmp op a b) (evV cf (.cmp op a b)) ρ := (rfl)
@[simp] theorem nV_cmp (op : CmpOp) (a : CE) (b : CE) : isVar (.cmp op a b) = false := (rfl)
@[simp] theorem rd_cmp (op : CmpOp) (a : CE) (b : CE) (p : Env → PO Rs) : rd (.cmp op a b) p ρ = (p ρ).bind fun r => .ok r.2 := (rfl)
@[simp] theorem rdW_cmp (op : CmpOp) (a : CE) (b : CE) (p : Env → PO Rs) : rdW (.cmp op a b) p ρ = (p ρ).bind fun r => .ok r.2 := (rfl)
@[simp] theorem wk_cmp (op : CmpOp) (a : CE) (b : CE) (p : Env → PO Rs) : wk (.cmp op a b) p ρ = (p ρ).bind fun r => liftP ((itemsW r.2).map fun xs => (xs, none)) := (rfl)
@[simp] theorem wkE_cmp (op : CmpOp) (a : CE) (b : CE) (p : Env → PO Rs) : wkE (.cmp op a b) p ρ = (p ρ).bind fun r => if noStr r.2 = true then liftP ((itemsW r.2).map fun xs => (enumD xs, none)) else .bad := (rfl)
@[simp] theorem argP_t_cmp (op : CmpOp) (a : CE) (b : CE) (p : Env → PO Rs) : argP true (.cmp op a b) p ρ = (p ρ).bind fun r => .ok (mk r.1 r.2) := (rfl)
@[simp] theorem evV_chn (op : CmpOp) (op' : CmpOp) (a : CE) (b : CE) (c : CE) : evV cf (.chn op op' a b c) ρ = (((evV cf a) ρ).bind fun x => ((evV cf b) ρ).bind fun y => (liftP (cmpOp op x.2 y.2)).bind fun t => if t = true then ((evV cf c) ρ).bind fun z => liftP ((cmpOp op' y.2 z.2).map fun b => (false, PyData.bool b)) else .ok (false, .bool false)) := (rfl)
@[simp] theorem evW_chn (op : CmpOp) (op' : CmpOp) (a : CE) (b : CE) (c : CE) : evW cf (.chn op op' a b c) ρ = wk (.chn op op' a b c) (evV cf (.chn op op' a b c)) ρ := (rfl)
@[simp] theorem nV_chn (op : CmpOp) (op' : CmpOp) (a : CE) (b : CE) (c : CE) : isVar (.chn op op' a b c) = false := (rfl)
@[simp] theorem rd_chn (op : CmpOp) (op' : CmpOp) (a : CE) (b : CE) (c : CE) (p : Env → PO Rs) : rd (.chn op op' a b c) p ρ = (p ρ).bind fun r => .ok r.2 := (rfl)
@[simp] theorem rdW_chn (op : CmpOp) (op' : CmpOp) (a : CE) (b : CE) (c : CE) (p : Env → PO Rs) : rdW (.chn op op' a b c) p ρ = (p ρ).bind fun r => .ok r.2 := (rfl)
@[simp] theorem wk_chn (op : CmpOp) (op' : CmpOp) (a : CE) (b : CE) (c : CE) (p : Env → PO Rs) : wk (.chn op op' a b c) p ρ = (p ρ).bind fun r => liftP ((itemsW r.2).map fun xs => (xs, none)) := (rfl)
@[simp] theorem wkE_chn (op : CmpOp) (op' : CmpOp) (a : CE) (b : CE) (c : CE) (p : Env → PO Rs) : wkE (.chn op op' a b c) p ρ = (p ρ).bind fun r => if noStr r.2 = true then liftP ((itemsW r.2).map fun xs => (enumD xs, none)) else .bad := (rfl)
@[simp] theorem argP_t_chn (op : CmpOp) (op' : CmpOp) (a : CE) (b : CE) (c : CE) (p : Env → PO Rs) : argP true (.chn op op' a b c) p ρ = (p ρ).bind fun r => .ok (mk r.1 r.2) := (rfl)
@[simp] theorem evV_isin (ng : Bool) (a : CE) (b : CE) : evV cf (.isin ng a b) ρ = (((evV cf a) ρ).bind fun x => (rdW b (evV cf b) ρ).bind fun y => liftP ((inOp x.2 y).map fun b => (false, PyData.bool (if ng = true then !b else b)))) := (rfl)
@[simp] theorem evW_isin (ng : Bool) (a : CE) (b : CE) : evW cf (.isin ng a b) ρ = wk (.isin ng a b) (evV cf (.isin ng a b)) ρ := (rfl)
@[simp] theorem nV_isin (ng : Bool) (a : CE) (b : CE) : isVar (.isin ng a b) = false := (rfl)
@[simp] theorem rd_isin (ng : Bool) (a : CE) (b : CE) (p : Env → PO Rs) : rd (.isin ng a b) p ρ = (p ρ).bind fun r => .ok r.2 := (rfl)
@[simp] theorem rdW_isin (ng : Bool) (a : CE) (b : CE) (p : Env → PO Rs) : rdW (.isin ng a b) p ρ = (p ρ).bind fun r => .ok r.2 := (rfl)
@[simp] theorem wk_isin (ng : Bool) (a : CE) (b : CE) (p : Env → PO Rs) : wk (.isin ng a b) p ρ = (p ρ).bind fun r => liftP ((itemsW r.2).map fun xs => (xs, none)) := (rfl)
@[simp] theorem wkE_isin (ng : Bool) (a : CE) (b : CE) (p : Env → PO Rs) : wkE (.isin ng a b) p ρ = (p ρ).bind fun r => if noStr r.2 = true then liftP ((itemsW r.2).map fun xs => (enumD xs, none)) else .bad := (rfl)
@[simp] theorem argP_t_isin (ng : Bool) (a : CE) (b : CE) (p : Env → PO Rs) : argP true (.isin ng a b) p ρ = (p ρ).bind fun r => .ok (mk r.1 r.2) := (rfl)
@[simp] theorem evV_wr (ds : List D) : evV cf (.wr ds) ρ = (.bad) := (rfl)
@[simp] theorem evW_wr (ds : List D) : evW cf (.wr ds) ρ = wk (.wr ds) (evV cf (.wr ds)) ρ := (rfl)
@[simp] theorem evV_isn (ng : Bool) (a : CE) : evV cf (.isn ng a) ρ = ((rd a (evV cf a) ρ).bind fun d => .ok (false, PyData.bool (if isNon d = true then !ng else ng))) := (rfl)
@[simp] theorem evW_isn (ng : Bool) (a : CE) : evW cf (.isn ng a) ρ = wk (.isn ng a) (evV cf (.isn ng a)) ρ := (rfl)
@[simp] theorem nV_isn (ng : Bool) (a : CE) : isVar (.isn ng a) = false := (rfl)
@[simp] theorem rd_isn (ng : Bool) (a : CE) (p : Env → PO Rs) : rd (.isn ng a) p ρ = (p ρ).bind fun r => .ok r.2 := (rfl)
@[simp] theorem rdW_isn (ng : Bool) (a : CE) (p : Env → PO Rs) : rdW (.isn ng a) p ρ = (p ρ).bind fun r => .ok r.2 := (rfl)
@[simp] theorem wk_isn (ng : Bool) (a : CE) (p : Env → PO Rs) : wk (.isn ng a) p ρ = (p ρ).bind fun r => liftP ((itemsW r.2).map fun xs => (xs, none)) := (rfl)
@[simp] theorem wkE_isn (ng : Bool) (a : CE) (p : Env → PO Rs) : wkE (.isn ng a) p ρ = (p ρ).bind fun r => if noStr r.2 = true then liftP ((itemsW r.2).map fun xs => (enumD xs, none)) else .bad := (rfl)
@[simp] theorem argP_t_isn (ng : Bool) (a : CE) (p : Env → PO Rs) : argP true (.isn ng a) p ρ = (p ρ).bind fun r => .ok (mk r.1 r.2) := (rfl)
@[simp] theorem evV_not (a : CE) : evV cf (.not a) ρ = (((evV cf a) ρ).bind fun x => liftP ((tru x.2).map fun b => (false, PyData.bool !b))) := (rfl)
@[simp] theorem evW_not (a : CE) : evW cf (.not a) ρ = wk (.not a) (evV cf (.not a)) ρ := (rfl)
@[simp] theorem nV_not (a : CE) : isVar (.not a) = false := (rfl)
@[simp] theorem rd_not (a : CE) (p : Env → PO Rs) : rd (.not a) p ρ = (p ρ).bind fun r => .ok r.2 := (rfl)
@[simp] theorem rdW_not (a : CE) (p : Env → PO Rs) : rdW (.not a) p ρ = (p ρ).bind fun r => .ok r.2 := (rfl)
@[simp] theorem wk_not (a : CE) (p : Env → PO Rs) : wk (.not a) p ρ = (p ρ).bind fun r => liftP ((itemsW r.2).map fun xs => (xs, none)) := (rfl)
@[simp] theorem wkE_not (a : CE) (p : Env → PO Rs) : wkE (.not a) p ρ = (p ρ).bind fun r => if noStr r.2 = true then liftP ((itemsW r.2).map fun xs => (enumD xs, none)) else .bad := (rfl)
@[simp] theorem argP_t_not (a : CE) (p : Env → PO Rs) : argP true (.not a) p ρ = (p ρ).bind fun r => .ok (mk r.1 r.2) := (rfl)
@[simp] theorem evV_and (a : CE) (b : CE) : evV cf (.and a b) ρ = (((evV cf a) ρ).bind fun x => (liftP (tru x.2)).bind fun t => if t = true then ((evV cf b) ρ).bind fun y => (liftP (tru y.2)).bind fun u => .ok (false, .bool u) else .ok (false, .bool false)) := (rfl)
@[simp] theorem evW_and (a : CE) (b : CE) : evW cf (.and a b) ρ = wk (.and a b) (evV cf (.and a b)) ρ := (rfl)
@[simp] theorem nV_and (a : CE) (b : CE) : isVar (.and a b) = false := (rfl)
@[simp] theorem rd_and (a : CE) (b : CE) (p : Env → PO Rs) : rd (.and a b) p ρ = (p ρ).bind fun r => .ok r.2 := (rfl)
@[simp] theorem rdW_and (a : CE) (b : CE) (p : Env → PO Rs) : rdW (.and a b) p ρ = (p ρ).bind fun r => .ok r.2 := (rfl)
@[simp] theorem wk_and (a : CE) (b : CE) (p : Env → PO Rs) : wk (.and a b) p ρ = (p ρ).bind fun r => liftP ((itemsW r.2).map fun xs => (xs, none)) := (rfl)
@[simp] theorem wkE_and (a : CE) (b : CE) (p : Env → PO Rs) : wkE (.and a b) p ρ = (p ρ).bind fun r => if noStr r.2 = true then liftP ((itemsW r.2).map fun xs => (enumD xs, none)) else .bad := (rfl)
@[simp] theorem argP_t_and (a : CE) (b : CE) (p : Env → PO Rs) : argP true (.and a b) p ρ = (p ρ).bind fun r => .ok (mk r.1 r.2) := (rfl)
@[simp] theorem evV_or (a : CE) (b : CE) : evV cf (.or a b) ρ = (((evV cf a) ρ).bind fun x => (liftP (tru x.2)).bind fun t => if t = true then .ok (false, .bool true) else ((evV cf b) ρ).bind fun y => (liftP (tru y.2)).bind fun u => .ok (false, .bool u)) := (rfl)
@[simp] theorem evW_or (a : CE) (b : CE) : evW cf (.or a b) ρ = wk (.or a b) (evV cf (.or a b)) ρ := (rfl)
@[simp] theorem nV_or (a : CE) (b : CE) : isVar (.or a b) = false := (rfl)
@[simp] theorem rd_or (a : CE) (b : CE) (p : Env → PO Rs) : rd (.or a b) p ρ = (p ρ).bind fun r => .ok r.2 := (rfl)
@[simp] theorem rdW_or (a : CE) (b : CE) (p : Env → PO Rs) : rdW (.or a b) p ρ = (p ρ).bind fun r => .ok r.2 := (rfl)
@[simp] theorem wk_or (a : CE) (b : CE) (p : Env → PO Rs) : wk (.or a b) p ρ = (p ρ).bind fun r => liftP ((itemsW r.2).map fun xs => (xs, none)) := (rfl)
@[simp] theorem wkE_or (a : CE) (b : CE) (p : Env → PO Rs) : wkE (.or a b) p ρ = (p ρ).bind fun r => if noStr r.2 = true then liftP ((itemsW r.2).map fun xs => (enumD xs, none)) else .bad := (rfl)
@[simp] theorem argP_t_or (a : CE) (b : CE) (p : Env → PO Rs) : argP true (.or a b) p ρ = (p ρ).bind fun r => .ok (mk r.1 r.2) := (rfl)
@[simp] theorem evV_ite (c : CE) (a : CE) (b : CE) : evV cf (.ite c a b) ρ = (((evV cf c) ρ).bind fun x => (liftP (tru x.2)).bind fun t => if t = true then (evV cf a) ρ else (evV cf b) ρ) := (rfl)
@[simp] theorem evW_ite (c : CE) (a : CE) (b : CE) : evW cf (.ite c a b) ρ = wk (.ite c a b) (evV cf (.ite c a b)) ρ := (rfl)
@[simp] theorem nV_ite (c : CE) (a : CE) (b : CE) : isVar (.ite c a b) = false := (rfl)
@[simp] theorem rd_ite (c : CE) (a : CE) (b : CE) (p : Env → PO Rs) : rd (.ite c a b) p ρ = (p ρ).bind fun r => .ok r.2 := (rfl)
@[simp] theorem rdW_ite (c : CE) (a : CE) (b : CE) (p : Env → PO Rs) : rdW (.ite c a b) p ρ = (p ρ).bind fun r => .ok r.2 := (rfl)
@[simp] theorem wk_ite (c : CE) (a : CE) (b : CE) (p : Env → PO Rs) : wk (.ite c a b) p ρ = (p ρ).bind fun r => liftP ((itemsW r.2).map fun xs => (xs, none)) := (rfl)
@[simp] theorem wkE_ite (c : CE) (a : CE) (b : CE) (p : Env → PO Rs) : wkE (.ite c a b) p ρ = (p ρ).bind fun r => if noStr r.2 = true then liftP ((itemsW r.2).map fun xs => (enumD xs, none)) else .bad := (rfl)
@[simp] theorem argP_t_ite (c : CE) (a : CE) (b : CE) (p : Env → PO Rs) : argP true (.ite c a b) p ρ = (p ρ).bind fun r => .ok (mk r.1 r.2) := (rfl)
@[simp] theorem evV_idx (a : CE) (b : CE) : evV cf (.idx a b) ρ = ((rd a (evV cf a) ρ).bind fun x => ((evV cf b) ρ).bind fun y => liftP ((idxOp x y.2).map fun d => (false, d))) := (rfl)
@[simp] theorem evW_idx (a : CE) (b : CE) : evW cf (.idx a b) ρ = wk (.idx a b) (evV cf (.idx a b)) ρ := (rfl)
@[simp] theorem nV_idx (a : CE) (b : CE) : isVar (.idx a b) = false := (rfl)
@[simp] theorem rd_idx (a : CE) (b : CE) (p : Env → PO Rs) : rd (.idx a b) p ρ = (p ρ).bind fun r => .ok r.2 := (rfl)
@[simp] theorem rdW_idx (a : CE) (b : CE) (p : Env → PO Rs) : rdW (.idx a b) p ρ = (p ρ).bind fun r => .ok r.2 := (rfl)
@[simp] theorem wk_idx (a : CE) (b : CE) (p : Env → PO Rs) : wk (.idx a b) p ρ = (p ρ).bind fun r => liftP ((itemsW r.2).map fun xs => (xs, none)) := (rfl)
@[simp] theorem wkE_idx (a : CE) (b : CE) (p : Env → PO Rs) : wkE (.idx a b) p ρ = (p ρ).bind fun r => if noStr r.2 = true then liftP ((itemsW r.2).map fun xs => (enumD xs, none)) else .bad := (rfl)
@[simp] theorem argP_t_idx (a : CE) (b : CE) (p : Env → PO Rs) : argP true (.idx a b) p ρ = (p ρ).bind fun r => .ok (mk r.1 r.2) := (rfl)
@[simp] theorem evV_sl0 (a : CE) : evV cf (.sl0 a) ρ = ((rd a (evV cf a) ρ).bind fun x => liftP (slcOp x none none)) := (rfl)
@[simp] theorem evW_sl0 (a : CE) : evW cf (.sl0 a) ρ = wk (.sl0 a) (evV cf (.sl0 a)) ρ := (rfl)
@[simp] theorem nV_sl0 (a : CE) : isVar (.sl0 a) = false := (rfl)
@[simp] theorem rd_sl0 (a : CE) (p : Env → PO Rs) : rd (.sl0 a) p ρ = (p ρ).bind fun r => .ok r.2 := (rfl)
@[simp] theorem rdW_sl0 (a : CE) (p : Env → PO Rs) : rdW (.sl0 a) p ρ = (p ρ).bind fun r => .ok r.2 := (rfl)
@[simp] theorem wk_sl0 (a : CE) (p : Env → PO Rs) : wk (.sl0 a) p ρ = (p ρ).bind fun r => liftP ((itemsW r.2).map fun xs => (xs, none)) := (rfl)
@[simp] theorem wkE_sl0 (a : CE) (p : Env → PO Rs) : wkE (.sl0 a) p ρ = (p ρ).bind fun r => if noStr r.2 = true then liftP ((itemsW r.2).map fun xs => (enumD xs, none)) else .bad := (rfl)
@[simp] theorem argP_t_sl0 (a : CE) (p : Env → PO Rs) : argP true (.sl0 a) p ρ = (p ρ).bind fun r => .ok (mk r.1 r.2) := (rfl)
@[simp] theorem evV_sl1 (a : CE) (b : CE) : evV cf (.sl1 a b) ρ = ((rd a (evV cf a) ρ).bind fun x => ((evV cf b) ρ).bind fun y => liftP ((asInt y.2).bind fun i => slcOp x (some i) none)) := (rfl)
@[simp] theorem evW_sl1 (a : CE) (b : CE) : evW cf (.sl1 a b) ρ = wk (.sl1 a b) (evV cf (.sl1 a b)) ρ := (rfl)
@[simp] theorem nV_sl1 (a : CE) (b : CE) : isVar (.sl1 a b) = false := (rfl)
@[simp] theorem rd_sl1 (a : CE) (b : CE) (p : Env → PO Rs) : rd (.sl1 a b) p ρ = (p ρ).bind fun r => .ok r.2 := (rfl)
@[simp] theorem rdW_sl1 (a : CE) (b : CE) (p : Env → PO Rs) : rdW (.sl1 a b) p ρ = (p ρ).bind fun r => .ok r.2 := (rfl)
@[simp] theorem wk_sl1 (a : CE) (b : CE) (p : Env → PO Rs) : wk (.sl1 a b) p ρ = (p ρ).bind fun r => liftP ((itemsW r.2).map fun xs => (xs, none)) := (rfl)
@[simp] theorem wkE_sl1 (a : CE) (b : CE) (p : Env → PO Rs) : wkE (.sl1 a b) p ρ = (p ρ).bind fun r => if noStr r.2 = true then liftP ((itemsW r.2).map fun xs => (enumD xs, none)) else .bad := (rfl)
@[simp] theorem argP_t_sl1 (a : CE) (b : CE) (p : Env → PO Rs) : argP true (.sl1 a b) p ρ = (p ρ).bind fun r => .ok (mk r.1 r.2) := (rfl)
@[simp] theorem evV_sl2 (a : CE) (b : CE) : evV cf (.sl2 a b) ρ = ((rd a (evV cf a) ρ).bind fun x => ((evV cf b) ρ).bind fun y => liftP ((asInt y.2).bind fun i => slcOp x none (some i))) := (rfl)
@[simp] theorem evW_sl2 (a : CE) (b : CE) : evW cf (.sl2 a b) ρ = wk (.sl2 a b) (evV cf (.sl2 a b)) ρ := (rfl)
@[simp] theorem nV_sl2 (a : CE) (b : CE) : isVar (.sl2 a b) = false := (rfl)
@[simp] theorem rd_sl2 (a : CE) (b : CE) (p : Env → PO Rs) : rd (.sl2 a b) p ρ = (p ρ).bind fun r => .ok r.2 := (rfl)
@[simp] theorem rdW_sl2 (a : CE) (b : CE) (p : Env → PO Rs) : rdW (.sl2 a b) p ρ = (p ρ).bind fun r => .ok r.2 := (rfl)
@[simp] theorem wk_sl2 (a : CE) (b : CE) (p : Env → PO Rs) : wk (.sl2 a b) p ρ = (p ρ).bind fun r => liftP ((itemsW r.2).map fun xs => (xs, none)) := (rfl)
@[simp] theorem wkE_sl2 (a : CE) (b : CE) (p : Env → PO Rs) : wkE (.sl2 a b) p ρ = (p ρ).bind fun r => if noStr r.2 = true then liftP ((itemsW r.2).map fun xs => (enumD xs, none)) else .bad := (rfl)
@[simp] theorem argP_t_sl2 (a : CE) (b : CE) (p : Env → PO Rs) : argP true (.sl2 a b) p ρ = (p ρ).bind fun r => .ok (mk r.1 r.2) := (rfl)
@[simp] theorem evV_sl3 (a : CE) (b : CE) (c : CE) : evV cf (.sl3 a b c) ρ = ((rd a (evV cf a) ρ).bind fun x => ((evV cf b) ρ).bind fun y => (liftP (asInt y.2)).bind fun i => ((evV cf c) ρ).bind fun z => liftP ((asInt z.2).bind fun j => slcOp x (some i) (some j))) := (rfl)
@[simp] theorem evW_sl3 (a : CE) (b : CE) (c : CE) : evW cf (.sl3 a b c) ρ = wk (.sl3 a b c) (evV cf (.sl3 a b c)) ρ := (rfl)
@[simp] theorem nV_sl3 (a : CE) (b : CE) (c : CE) : isVar (.sl3 a b c) = false := (rfl)
@[simp] theorem rd_sl3 (a : CE) (b : CE) (c : CE) (p : Env → PO Rs) : rd (.sl3 a b c) p ρ = (p ρ).bind fun r => .ok r.2 := (rfl)
@[simp] theorem rdW_sl3 (a : CE) (b : CE) (c : CE) (p : Env → PO Rs) : rdW (.sl3 a b c) p ρ = (p ρ).bind fun r => .ok r.2 := (rfl)
@[simp] theorem wk_sl3 (a : CE) (b : CE) (c : CE) (p : Env → PO Rs) : wk (.sl3 a b c) p ρ = (p ρ).bind fun r => liftP ((itemsW r.2).map fun xs => (xs, none)) := (rfl)
@[simp] theorem wkE_sl3 (a : CE) (b : CE) (c : CE) (p : Env → PO Rs) : wkE (.sl3 a b c) p ρ = (p ρ).bind fun r => if noStr r.2 = true then liftP ((itemsW r.2).map fun xs => (enumD xs, none)) else .bad := (rfl)
@[simp] theorem argP_t_sl3 (a : CE) (b : CE) (c : CE) (p : Env → PO Rs) : argP true (.sl3 a b c) p ρ = (p ρ).bind fun r => .ok (mk r.1 r.2) := (rfl)
@[simp] theorem evV_rev (a : CE) : evV cf (.rev a) ρ = ((rd a (evV cf a) ρ).bind fun x => revP x) := (rfl)
@[simp] theorem evW_rev (a : CE) : evW cf (.rev a) ρ = wk (.rev a) (evV cf (.rev a)) ρ := (rfl)
@[simp] theorem nV_rev (a : CE) : isVar (.rev a) = false := (rfl)
@[simp] theorem rd_rev (a : CE) (p : Env → PO Rs) : rd (.rev a) p ρ = (p ρ).bind fun r => .ok r.2 := (rfl)
@[simp] theorem rdW_rev (a : CE) (p : Env → PO Rs) : rdW (.rev a) p ρ = (p ρ).bind fun r => .ok r.2 := (rfl)
@[simp] theorem wk_rev (a : CE) (p : Env → PO Rs) : wk (.rev a) p ρ = (p ρ).bind fun r => liftP ((itemsW r.2).map fun xs => (xs, none)) := (rfl)
@[simp] theorem wkE_rev (a : CE) (p : Env → PO Rs) : wkE (.rev a) p ρ = (p ρ).bind fun r => if noStr r.2 = true then liftP ((itemsW r.2).map fun xs => (enumD xs, none)) else .bad := (rfl)
@[simp] theorem argP_t_rev (a : CE) (p : Env → PO Rs) : argP true (.rev a) p ρ = (p ρ).bind fun r => .ok (mk r.1 r.2) := (rfl)
@[simp] theorem evV_b1 (f : B1) (a : CE) : evV cf (.b1 f a) ρ = ((rd a (evV cf a) ρ).bind fun x => liftP (b1Op f x)) := (rfl)
@[simp] theorem evW_b1 (f : B1) (a : CE) : evW cf (.b1 f a) ρ = wk (.b1 f a) (evV cf (.b1 f a)) ρ := (rfl)
@[simp] theorem nV_b1 (f : B1) (a : CE) : isVar (.b1 f a) = false := (rfl)
@[simp] theorem rd_b1 (f : B1) (a : CE) (p : Env → PO Rs) : rd (.b1 f a) p ρ = (p ρ).bind fun r => .ok r.2 := (rfl)
@[simp] theorem rdW_b1 (f : B1) (a : CE) (p : Env → PO Rs) : rdW (.b1 f a) p ρ = (p ρ).bind fun r => .ok r.2 := (rfl)
@[simp] theorem wk_b1 (f : B1) (a : CE) (p : Env → PO Rs) : wk (.b1 f a) p ρ = (p ρ).bind fun r => liftP ((itemsW r.2).map fun xs => (xs, none)) := (rfl)
@[simp] theorem wkE_b1 (f : B1) (a : CE) (p : Env → PO Rs) : wkE (.b1 f a) p ρ = (p ρ).bind fun r => if noStr r.2 = true then liftP ((itemsW r.2).map fun xs => (enumD xs, none)) else .bad := (rfl)
@[simp] theorem argP_t_b1 (f : B1) (a : CE) (p : Env → PO Rs) : argP true (.b1 f a) p ρ = (p ρ).bind fun r => .ok (mk r.1 r.2) := (rfl)
@[simp] theorem evV_b2 (f : B2) (a : CE) (b : CE) : evV cf (.b2 f a b) ρ = (((evV cf a) ρ).bind fun x => ((evV cf b) ρ).bind fun y => liftP (b2Op f x.2 y.2)) := (rfl)
@[simp] theorem evW_b2 (f : B2) (a : CE) (b : CE) : evW cf (.b2 f a b) ρ = wk (.b2 f a b) (evV cf (.b2 f a b)) ρ := (rfl)
@[simp] theorem nV_b2 (f : B2) (a : CE) (b : CE) : isVar (.b2 f a b) = false := (rfl)
@[simp] theorem rd_b2 (f : B2) (a : CE) (b : CE) (p : Env → PO Rs) : rd (.b2 f a b) p ρ = (p ρ).bind fun r => .ok r.2 := (rfl)
@[simp] theorem rdW_b2 (f : B2) (a : CE) (b : CE) (p : Env → PO Rs) : rdW (.b2 f a b) p ρ = (p ρ).bind fun r => .ok r.2 := (rfl)
@[simp] theorem wk_b2 (f : B2) (a : CE) (b : CE) (p : Env → PO Rs) : wk (.b2 f a b) p ρ = (p ρ).bind fun r => liftP ((itemsW r.2).map fun xs => (xs, none)) := (rfl)
@[simp] theorem wkE_b2 (f : B2) (a : CE) (b : CE) (p : Env → PO Rs) : wkE (.b2 f a b) p ρ = (p ρ).bind fun r => if noStr r.2 = true then liftP ((itemsW r.2).map fun xs => (enumD xs, none)) else .bad := (rfl)
@[simp] theorem argP_t_b2 (f : B2) (a : CE) (b : CE) (p : Env → PO Rs) : argP true (.b2 f a b) p ρ = (p ρ).bind fun r => .ok (mk r.1 r.2) := (rfl)
@[simp] theorem evV_get (a : CE) (b : CE) (c : CE) : evV cf (.get a b c) ρ = ((rd a (evV cf a) ρ).bind fun x => ((evV cf b) ρ).bind fun y => ((evV cf c) ρ).bind fun z => getP x y.2 z.2) := (rfl)
@[simp] theorem evW_get (a : CE) (b : CE) (c : CE) : evW cf (.get a b c) ρ = wk (.get a b c) (evV cf (.get a b c)) ρ := (rfl)
@[simp] theorem nV_get (a : CE) (b : CE) (c : CE) : isVar (.get a b c) = false := (rfl)
@[simp] theorem rd_get (a : CE) (b : CE) (c : CE) (p : Env → PO Rs) : rd (.get a b c) p ρ = (p ρ).bind fun r => .ok r.2 := (rfl)
@[simp] theorem rdW_get (a : CE) (b : CE) (c : CE) (p : Env → PO Rs) : rdW (.get a b c) p ρ = (p ρ).bind fun r => .ok r.2 := (rfl)
@[simp] theorem wk_get (a : CE) (b : CE) (c : CE) (p : Env → PO Rs) : wk (.get a b c) p ρ = (p ρ).bind fun r => liftP ((itemsW r.2).map fun xs => (xs, none)) := (rfl)
@[simp] theorem wkE_get (a : CE) (b : CE) (c : CE) (p : Env → PO Rs) : wkE (.get a b c) p ρ = (p ρ).bind fun r => if noStr r.2 = true then liftP ((itemsW r.2).map fun xs => (enumD xs, none)) else .bad := (rfl)
@[simp] theorem argP_t_get (a : CE) (b : CE) (c : CE) (p : Env → PO Rs) : argP true (.get a b c) p ρ = (p ρ).bind fun r => .ok (mk r.1 r.2) := (rfl)
@[simp] theorem evV_isi (a : CE) (ts : Ty) : evV cf (.isi a ts) ρ = ((rd a (evV cf a) ρ).bind fun x => if isiOk x = true then .ok (false, PyData.bool (tyOf x ts)) else .bad) := (rfl)
@[simp] theorem evW_isi (a : CE) (ts : Ty) : evW cf (.isi a ts) ρ = wk (.isi a ts) (evV cf (.isi a ts)) ρ := (rfl)
@[simp] theorem nV_isi (a : CE) (ts : Ty) : isVar (.isi a ts) = false := (rfl)
@[simp] theorem rd_isi (a : CE) (ts : Ty) (p : Env → PO Rs) : rd (.isi a ts) p ρ = (p ρ).bind fun r => .ok r.2 := (rfl)
@[simp] theorem rdW_isi (a : CE) (ts : Ty) (p : Env → PO Rs) : rdW (.isi a ts) p ρ = (p ρ).bind fun r => .ok r.2 := (rfl)
@[simp] theorem wk_isi (a : CE) (ts : Ty) (p : Env → PO Rs) : wk (.isi a ts) p ρ = (p ρ).bind fun r => liftP ((itemsW r.2).map fun xs => (xs, none)) := (rfl)
@[simp] theorem wkE_isi (a : CE) (ts : Ty) (p : Env → PO Rs) : wkE (.isi a ts) p ρ = (p ρ).bind fun r => if noStr r.2 = true then liftP ((itemsW r.2).map fun xs => (enumD xs, none)) else .bad := (rfl)
@[simp] theorem argP_t_isi (a : CE) (ts : Ty) (p : Env → PO Rs) : argP true (.isi a ts) p ρ = (p ρ).bind fun r => .ok (mk r.1 r.2) := (rfl)
@[simp] theorem evV_call (f : Str) (es : List CE) : evV cf (.call f es) ρ = ((evPA cf (cf.sig f) 0 es ρ).bind fun ss => callP cf f ss) := (rfl)
@[simp] theorem evW_call (f : Str) (es : List CE) : evW cf (.call f es) ρ = wk (.call f es) (evV cf (.call f es)) ρ := (rfl)
@[simp] theorem nV_call (f : Str) (es : List CE) : isVar (.call f es) = false := (rfl)
@[simp] theorem rd_call (f : Str) (es : List CE) (p : Env → PO Rs) : rd (.call f es) p ρ = (p ρ).bind fun r => .ok r.2 := (rfl)
@[simp] theorem rdW_call (f : Str) (es : List CE) (p : Env → PO Rs) : rdW (.call f es) p ρ = (p ρ).bind fun r => .ok r.2 := (rfl)
@[simp] theorem wk_call (f : Str) (es : List CE) (p : Env → PO Rs) : wk (.call f es) p ρ = (p ρ).bind fun r => liftP ((itemsW r.2).map fun xs => (xs, none)) := (rfl)
@[simp] theorem wkE_call (f : Str) (es : List CE) (p : Env → PO Rs) : wkE (.call f es) p ρ = (p ρ).bind fun r => if noStr r.2 = true then liftP ((itemsW r.2).map fun xs => (enumD xs, none)) else .bad := (rfl)
@[simp] theorem argP_t_call (f : Str) (es : List CE) (p : Env → PO Rs) : argP true (.call f es) p ρ = (p ρ).bind fun r => .ok (mk r.1 r.2) := (rfl)
@[simp] theorem evV_pop (i : Nat) : evV cf (.pop i) ρ = (.bad) := (rfl)
@[simp] theorem evW_pop (i : Nat) : evW cf (.pop i) ρ = wk (.pop i) (evV cf (.pop i)) ρ := (rfl)
@[simp] theorem nV_pop (i : Nat) : isVar (.pop i) = false := (rfl)
@[simp] theorem rd_pop (i : Nat) (p : Env → PO Rs) : rd (.pop i) p ρ = (p ρ).bind fun r => .ok r.2 := (rfl)
@[simp] theorem rdW_pop (i : Nat) (p : Env → PO Rs) : rdW (.pop i) p ρ = (p ρ).bind fun r => .ok r.2 := (rfl)
@[simp] theorem wk_pop (i : Nat) (p : Env → PO Rs) : wk (.pop i) p ρ = (p ρ).bind fun r => liftP ((itemsW r.2).map fun xs => (xs, none)) := (rfl)
@[simp] theorem wkE_pop (i : Nat) (p : Env → PO Rs) : wkE (.pop i) p ρ = (p ρ).bind fun r => if noStr r.2 = true then liftP ((itemsW r.2).map fun xs => (enumD xs, none)) else .bad := (rfl)
@[simp] theorem argP_t_pop (i : Nat) (p : Env → PO Rs) : argP true (.pop i) p ρ = (p ρ).bind fun r => .ok (mk r.1 r.2) := (rfl)
@[simp] theorem evV_popAt (i : Nat) (a : CE) : evV cf (.popAt i a) ρ = (.bad) := (rfl)
@[simp] theorem evW_popAt (i : Nat) (a : CE) : evW cf (.popAt i a) ρ = wk (.popAt i a) (evV cf (.popAt i a)) ρ := (rfl)
@[simp] theorem nV_popAt (i : Nat) (a : CE) : isVar (.popAt i a) = false := (rfl)
@[simp] theorem rd_popAt (i : Nat) (a : CE) (p : Env → PO Rs) : rd (.popAt i a) p ρ = (p ρ).bind fun r => .ok r.2 := (rfl)
@[simp] theorem rdW_popAt (i : Nat) (a : CE) (p : Env → PO Rs) : rdW (.popAt i a) p ρ = (p ρ).bind fun r => .ok r.2 := (rfl)
@[simp] theorem wk_popAt (i : Nat) (a : CE) (p : Env → PO Rs) : wk (.popAt i a) p ρ = (p ρ).bind fun r => liftP ((itemsW r.2).map fun xs => (xs, none)) := (rfl)
@[simp] theorem wkE_popAt (i : Nat) (a : CE) (p : Env → PO Rs) : wkE (.popAt i a) p ρ = (p ρ).bind fun r => if noStr r.2 = true then liftP ((itemsW r.2).map fun xs => (enumD xs, none)) else .bad := (rfl)
@[simp] theorem argP_t_popAt (i : Nat) (a : CE) (p : Env → PO Rs) : argP true (.popAt i a) p ρ = (p ρ).bind fun r => .ok (mk r.1 r.2) := (rfl)
@[simp] theorem evV_lrng (a : CE) : evV cf (.lrng a) ρ = ((evV cf a ρ).bind lrngK) := (rfl)
@[simp] theorem evW_lrng (a : CE) : evW cf (.lrng a) ρ = wk (.lrng a) (evV cf (.lrng a)) ρ := (rfl)
@[simp] theorem nV_lrng (a : CE) : isVar (.lrng a) = false := (rfl)
@[simp] theorem rd_lrng (a : CE) (p : Env → PO Rs) : rd (.lrng a) p ρ = (p ρ).bind fun r => .ok r.2 := (rfl)
@[simp] theorem rdW_lrng (a : CE) (p : Env → PO Rs) : rdW (.lrng a) p ρ = (p ρ).bind fun r => .ok r.2 := (rfl)
@[simp] theorem wk_lrng (a : CE) (p : Env → PO Rs) : wk (.lrng a) p ρ = (p ρ).bind fun r => liftP ((itemsW r.2).map fun xs => (xs, none)) := (rfl)
@[simp] theorem wkE_lrng (a : CE) (p : Env → PO Rs) : wkE (.lrng a) p ρ = (p ρ).bind fun r => if noStr r.2 = true then liftP ((itemsW r.2).map fun xs => (enumD xs, none)) else .bad := (rfl)
@[simp] theorem argP_t_lrng (a : CE) (p : Env → PO Rs) : argP true (.lrng a) p ρ = (p ρ).bind fun r => .ok (mk r.1 r.2) := (rfl)
@[simp] theorem evW_rng1 (a : CE) : evW cf (.rng1 a) ρ = ((evV cf a ρ).bind rng1K) := (rfl)
@[simp] theorem nV_rng1 (a : CE) : isVar (.rng1 a) = false := (rfl)
@[simp] theorem evW_rng2 (a : CE) (b : CE) : evW cf (.rng2 a b) ρ = ((evV cf a ρ).bind fun x => (evV cf b ρ).bind (rng2K x)) := (rfl)
@[simp] theorem nV_rng2 (a : CE) (b : CE) : isVar (.rng2 a b) = false := (rfl)
@[simp] theorem evW_rng3 (a : CE) (b : CE) (c : CE) : evW cf (.rng3 a b c) ρ = ((evV cf a ρ).bind fun x => (evV cf b ρ).bind fun y => (evV cf c ρ).bind (rng3K x y)) := (rfl)
@[simp] theorem nV_rng3 (a : CE) (b : CE) (c : CE) : isVar (.rng3 a b c) = false := (rfl)
@[simp] theorem evW_enm (a : CE) : evW cf (.enm a) ρ = (wkE a (evV cf a) ρ) := (rfl)
@[simp] theorem nV_enm (a : CE) : isVar (.enm a) = false := (rfl)
@[simp] theorem evW_zp (a : CE) (b : CE) : evW cf (.zp a b) ρ = (((evV cf a) ρ).bind fun x => ((evV cf b) ρ).bind fun y => zipP x.2 y.2) := (rfl)
@[simp] theorem nV_zp (a : CE) (b : CE) : isVar (.zp a b) = false := (rfl)
@[simp] theorem evV_itm (a : CE) : evV cf (.itm a) ρ = (.bad) := (rfl)
@[simp] theorem evW_itm (a : CE) : evW cf (.itm a) ρ = wk (.itm a) (evV cf (.itm a)) ρ := (rfl)
@[simp] theorem nV_itm (a : CE) : isVar (.itm a) = false := (rfl)
@[simp] theorem rd_itm (a : CE) (p : Env → PO Rs) : rd (.itm a) p ρ = (p ρ).bind fun r => .ok r.2 := (rfl)
@[simp] theorem rdW_itm (a : CE) (p : Env → PO Rs) : rdW (.itm a) p ρ = (p ρ).bind fun r => .ok r.2 := (rfl)
@[simp] theorem wk_itm (a : CE) (p : Env → PO Rs) : wk (.itm a) p ρ = (p ρ).bind fun r => liftP ((itemsW r.2).map fun xs => (xs, none)) := (rfl)
@[simp] theorem wkE_itm (a : CE) (p : Env → PO Rs) : wkE (.itm a) p ρ = (p ρ).bind fun r => if noStr r.2 = true then liftP ((itemsW r.2).map fun xs => (enumD xs, none)) else .bad := (rfl)
@[simp] theorem argP_t_itm (a : CE) (p : Env → PO Rs) : argP true (.itm a) p ρ = (p ρ).bind fun r => .ok (mk r.1 r.2) := (rfl)
@[simp] theorem evV_lc (vs : List Nat) (elt : CE) (tg : Tg) (it : CE) : evV cf (.lc vs elt tg it) ρ = ((evW cf it ρ).bind (lenK (thenK (blk2K vs tg (oneK cf elt) ρ) lstK))) := (rfl)
@[simp] theorem evW_lc (vs : List Nat) (elt : CE) (tg : Tg) (it : CE) : evW cf (.lc vs elt tg it) ρ = wk (.lc vs elt tg it) (evV cf (.lc vs elt tg it)) ρ := (rfl)
@[simp] theorem nV_lc (vs : List Nat) (elt : CE) (tg : Tg) (it : CE) : isVar (.lc vs elt tg it) = false := (rfl)
@[simp] theorem rd_lc (vs : List Nat) (elt : CE) (tg : Tg) (it : CE) (p : Env → PO Rs) : rd (.lc vs elt tg it) p ρ = (p ρ).bind fun r => .ok r.2 := (rfl)
@[simp] theorem rdW_lc (vs : List Nat) (elt : CE) (tg : Tg) (it : CE) (p : Env → PO Rs) : rdW (.lc vs elt tg it) p ρ = (p ρ).bind fun r => .ok r.2 := (rfl)
@[simp] theorem wk_lc (vs : List Nat) (elt : CE) (tg : Tg) (it : CE) (p : Env → PO Rs) : wk (.lc vs elt tg it) p ρ = (p ρ).bind fun r => liftP ((itemsW r.2).map fun xs => (xs, none)) := (rfl)
@[simp] theorem wkE_lc (vs : List Nat) (elt : CE) (tg : Tg) (it : CE) (p : Env → PO Rs) : wkE (.lc vs elt tg it) p ρ = (p ρ).bind fun r => if noStr r.2 = true then liftP ((itemsW r.2).map fun xs => (enumD xs, none)) else .bad := (rfl)
@[simp] theorem argP_t_lc (vs : List Nat) (elt : CE) (tg : Tg) (it : CE) (p : Env → PO Rs) : argP true (.lc vs elt tg it) p ρ = (p ρ).bind fun r => .ok (mk r.1 r.2) := (rfl)
@[simp] theorem evV_lcf (vs : List Nat) (elt : CE) (tg : Tg) (it : CE) (c : CE) : evV cf (.lcf vs elt tg it c) ρ = ((evW cf it ρ).bind (lenK (thenK (blk2K vs tg (ifK cf c elt) ρ) lstK))) := (rfl)
@[simp] theorem evW_lcf (vs : List Nat) (elt : CE) (tg : Tg) (it : CE) (c : CE) : evW cf (.lcf vs elt tg it c) ρ = wk (.lcf vs elt tg it c) (evV cf (.lcf vs elt tg it c)) ρ := (rfl)
@[simp] theorem nV_lcf (vs : List Nat) (elt : CE) (tg : Tg) (it : CE) (c : CE) : isVar (.lcf vs elt tg it c) = false := (rfl)
@[simp] theorem rd_lcf (vs : List Nat) (elt : CE) (tg : Tg) (it : CE) (c : CE) (p : Env → PO Rs) : rd (.lcf vs elt tg it c) p ρ = (p ρ).bind fun r => .ok r.2 := (rfl)
@[simp] theorem rdW_lcf (vs : List Nat) (elt : CE) (tg : Tg) (it : CE) (c : CE) (p : Env → PO Rs) : rdW (.lcf vs elt tg it c) p ρ = (p ρ).bind fun r => .ok r.2 := (rfl)
@[simp] theorem wk_lcf (vs : List Nat) (elt : CE) (tg : Tg) (it : CE) (c : CE) (p : Env → PO Rs) : wk (.lcf vs elt tg it c) p ρ = (p ρ).bind fun r => liftP ((itemsW r.2).map fun xs => (xs, none)) := (rfl)
@[simp] theorem wkE_lcf (vs : List Nat) (elt : CE) (tg : Tg) (it : CE) (c : CE) (p : Env → PO Rs) : wkE (.lcf vs elt tg it c) p ρ = (p ρ).bind fun r => if noStr r.2 = true then liftP ((itemsW r.2).map fun xs => (enumD xs, none)) else .bad := (rfl)
@[simp] theorem argP_t_lcf (vs : List Nat) (elt : CE) (tg : Tg) (it : CE) (c : CE) (p : Env → PO Rs) : argP true (.lcf vs elt tg it c) p ρ = (p ρ).bind fun r => .ok (mk r.1 r.2) := (rfl)
@[simp] theorem evV_lc2 (vs : List Nat) (vs2 : List Nat) (elt : CE) (tg : Tg) (it : CE) (tg2 : Tg) (it2 : CE) : evV cf (.lc2 vs vs2 elt tg it tg2 it2) ρ = ((evW cf it ρ).bind (thenK (blk2K vs tg (innK cf it2 (blk2K vs2 tg2 (oneK cf elt))) ρ) lstK2)) := (rfl)
@[simp] theorem evW_lc2 (vs : List Nat) (vs2 : List Nat) (elt : CE) (tg : Tg) (it : CE) (tg2 : Tg) (it2 : CE) : evW cf (.lc2 vs vs2 elt tg it tg2 it2) ρ = wk (.lc2 vs vs2 elt tg it tg2 it2) (evV cf (.lc2 vs vs2 elt tg it tg2 it2)) ρ := (rfl)
@[simp] theorem nV_lc2 (vs : List Nat) (vs2 : List Nat) (elt : CE) (tg : Tg) (it : CE) (tg2 : Tg) (it2 : CE) : isVar (.lc2 vs vs2 elt tg it tg2 it2) = false := (rfl)
@[simp] theorem rd_lc2 (vs : List Nat) (vs2 : List Nat) (elt : CE) (tg : Tg) (it : CE) (tg2 : Tg) (it2 : CE) (p : Env → PO Rs) : rd (.lc2 vs vs2 elt tg it tg2 it2) p ρ = (p ρ).bind fun r => .ok r.2 := (rfl)
@[simp] theorem rdW_lc2 (vs : List Nat) (vs2 : List Nat) (elt : CE) (tg : Tg) (it : CE) (tg2 : Tg) (it2 : CE) (p : Env → PO Rs) : rdW (.lc2 vs vs2 elt tg it tg2 it2) p ρ = (p ρ).bind fun r => .ok r.2 := (rfl)
@[simp] theorem wk_lc2 (vs : List Nat) (vs2 : List Nat) (elt : CE) (tg : Tg) (it : CE) (tg2 : Tg) (it2 : CE) (p : Env → PO Rs) : wk (.lc2 vs vs2 elt tg it tg2 it2) p ρ = (p ρ).bind fun r => liftP ((itemsW r.2).map fun xs => (xs, none)) := (rfl)
@[simp] theorem wkE_lc2 (vs : List Nat) (vs2 : List Nat) (elt : CE) (tg : Tg) (it : CE) (tg2 : Tg) (it2 : CE) (p : Env → PO Rs) : wkE (.lc2 vs vs2 elt tg it tg2 it2) p ρ = (p ρ).bind fun r => if noStr r.2 = true then liftP ((itemsW r.2).map fun xs => (enumD xs, none)) else .bad := (rfl)
@[simp] theorem argP_t_lc2 (vs : List Nat) (vs2 : List Nat) (elt : CE) (tg : Tg) (it : CE) (tg2 : Tg) (it2 : CE) (p : Env → PO Rs) : argP true (.lc2 vs vs2 elt tg it tg2 it2) p ρ = (p ρ).bind fun r => .ok (mk r.1 r.2) := (rfl)
@[simp] theorem evV_dc (vs : List Nat) (k : CE) (v : CE) (tg : Tg) (it : CE) : evV cf (.dc vs k v tg it) ρ = ((evW cf it ρ).bind (lenK (thenK (blk2K vs tg (dicK cf k v) ρ) dcfK))) := (rfl)
@[simp] theorem evW_dc (vs : List Nat) (k : CE) (v : CE) (tg : Tg) (it : CE) : evW cf (.dc vs k v tg it) ρ = wk (.dc vs k v tg it) (evV cf (.dc vs k v tg it)) ρ := (rfl)
@[simp] theorem nV_dc (vs : List Nat) (k : CE) (v : CE) (tg : Tg) (it : CE) : isVar (.dc vs k v tg it) = false := (rfl)
@[simp] theorem rd_dc (vs : List Nat) (k : CE) (v : CE) (tg : Tg) (it : CE) (p : Env → PO Rs) : rd (.dc vs k v tg it) p ρ = (p ρ).bind fun r => .ok r.2 := (rfl)
@[simp] theorem rdW_dc (vs : List Nat) (k : CE) (v : CE) (tg : Tg) (it : CE) (p : Env → PO Rs) : rdW (.dc vs k v tg it) p ρ = (p ρ).bind fun r => .ok r.2 := (rfl)
@[simp] theorem wk_dc (vs : List Nat) (k : CE) (v : CE) (tg : Tg) (it : CE) (p : Env → PO Rs) : wk (.dc vs k v tg it) p ρ = (p ρ).bind fun r => liftP ((itemsW r.2).map fun xs => (xs, none)) := (rfl)
@[simp] theorem wkE_dc (vs : List Nat) (k : CE) (v : CE) (tg : Tg) (it : CE) (p : Env → PO Rs) : wkE (.dc vs k v tg it) p ρ = (p ρ).bind fun r => if noStr r.2 = true then liftP ((itemsW r.2).map fun xs => (enumD xs, none)) else .bad := (rfl)
@[simp] theorem argP_t_dc (vs : List Nat) (k : CE) (v : CE) (tg : Tg) (it : CE) (p : Env → PO Rs) : argP true (.dc vs k v tg it) p ρ = (p ρ).bind fun r => .ok (mk r.1 r.2) := (rfl)
@[simp] theorem evV_dc2 (vs : List Nat) (vs2 : List Nat) (k : CE) (v : CE) (tg : Tg) (it : CE) (tg2 : Tg) (it2 : CE) : evV cf (.dc2 vs vs2 k v tg it tg2 it2) ρ = ((evW cf it ρ).bind (thenK (blk2K vs tg (innK cf it2 (blk2K vs2 tg2 (dicK cf k v))) ρ) dcfK2)) := (rfl)
@[simp] theorem evW_dc2 (vs : List Nat) (vs2 : List Nat) (k : CE) (v : CE) (tg : Tg) (it : CE) (tg2 : Tg) (it2 : CE) : evW cf (.dc2 vs vs2 k v tg it tg2 it2) ρ = wk (.dc2 vs vs2 k v tg it tg2 it2) (evV cf (.dc2 vs vs2 k v tg it tg2 it2)) ρ := (rfl)
@[simp] theorem nV_dc2 (vs : List Nat) (vs2 : List Nat) (k : CE) (v : CE) (tg : Tg) (it : CE) (tg2 : Tg) (it2 : CE) : isVar (.dc2 vs vs2 k v tg it tg2 it2) = false := (rfl)
@[simp] theorem rd_dc2 (vs : List Nat) (vs2 : List Nat) (k : CE) (v : CE) (tg : Tg) (it : CE) (tg2 : Tg) (it2 : CE) (p : Env → PO Rs) : rd (.dc2 vs vs2 k v tg it tg2 it2) p ρ = (p ρ).bind fun r => .ok r.2 := (rfl)
@[simp] theorem rdW_dc2 (vs : List Nat) (vs2 : List Nat) (k : CE) (v : CE) (tg : Tg) (it : CE) (tg2 : Tg) (it2 : CE) (p : Env → PO Rs) : rdW (.dc2 vs vs2 k v tg it tg2 it2) p ρ = (p ρ).bind fun r => .ok r.2 := (rfl)
@[simp] theorem wk_dc2 (vs : List Nat) (vs2 : List Nat) (k : CE) (v : CE) (tg : Tg) (it : CE) (tg2 : Tg) (it2 : CE) (p : Env → PO Rs) : wk (.dc2 vs vs2 k v tg it tg2 it2) p ρ = (p ρ).bind fun r => liftP ((itemsW r.2).map fun xs => (xs, none)) := (rfl)
@[simp] theorem wkE_dc2 (vs : List Nat) (vs2 : List Nat) (k : CE) (v : CE) (tg : Tg) (it : CE) (tg2 : Tg) (it2 : CE) (p : Env → PO Rs) : wkE (.dc2 vs vs2 k v tg it tg2 it2) p ρ = (p ρ).bind fun r => if noStr r.2 = true then liftP ((itemsW r.2).map fun xs => (enumD xs, none)) else .bad := (rfl)
@[simp] theorem argP_t_dc2 (vs : List Nat) (vs2 : List Nat) (k : CE) (v : CE) (tg : Tg) (it : CE) (tg2 : Tg) (it2 : CE) (p : Env → PO Rs) : argP true (.dc2 vs vs2 k v tg it tg2 it2) p ρ = (p ρ).bind fun r => .ok (mk r.1 r.2) := (rfl)
@[simp] theorem evV_dsp (ks : List CE) (vs : List CE) : evV cf (.dsp ks vs) ρ = (.bad) := (rfl)
@[simp] theorem evW_dsp (ks : List CE) (vs : List CE) : evW cf (.dsp ks vs) ρ = wk (.dsp ks vs) (evV cf (.dsp ks vs)) ρ := (rfl)
@[simp] theorem nV_dsp (ks : List CE) (vs : List CE) : isVar (.dsp ks vs) = false := (rfl)
@[simp] theorem rd_dsp (ks : List CE) (vs : List CE) (p : Env → PO Rs) : rd (.dsp ks vs) p ρ = (p ρ).bind fun r => .ok r.2 := (rfl)
@[simp] theorem rdW_dsp (ks : List CE) (vs : List CE) (p : Env → PO Rs) : rdW (.dsp ks vs) p ρ = (p ρ).bind fun r => .ok r.2 := (rfl)
@[simp] theorem wk_dsp (ks : List CE) (vs : List CE) (p : Env → PO Rs) : wk (.dsp ks vs) p ρ = (p ρ).bind fun r => liftP ((itemsW r.2).map fun xs => (xs, none)) := (rfl)
@[simp] theorem wkE_dsp (ks : List CE) (vs : List CE) (p : Env → PO Rs) : wkE (.dsp ks vs) p ρ = (p ρ).bind fun r => if noStr r.2 = true then liftP ((itemsW r.2).map fun xs => (enumD xs, none)) else .bad := (rfl)
@[simp] theorem argP_t_dsp (ks : List CE) (vs : List CE) (p : Env → PO Rs) : argP true (.dsp ks vs) p ρ = (p ρ).bind fun r => .ok (mk r.1 r.2) := (rfl)
@[simp] theorem evV_star  : evV cf (.star ) ρ = (.bad) := (rfl)
@[simp] theorem evW_star  : evW cf (.star ) ρ = wk (.star ) (evV cf (.star )) ρ := (rfl)
@[simp] theorem nV_star  : isVar (.star ) = false := (rfl)
@[simp] theorem rd_star  (p : Env → PO Rs) : rd (.star ) p ρ = (p ρ).bind fun r => .ok r.2 := (rfl)
@[simp] theorem rdW_star  (p : Env → PO Rs) : rdW (.star ) p ρ = (p ρ).bind fun r => .ok r.2 := (rfl)
@[simp] theorem wk_star  (p : Env → PO Rs) : wk (.star ) p ρ = (p ρ).bind fun r => liftP ((itemsW r.2).map fun xs => (xs, none)) := (rfl)
@[simp] theorem wkE_star  (p : Env → PO Rs) : wkE (.star ) p ρ = (p ρ).bind fun r => if noStr r.2 = true then liftP ((itemsW r.2).map fun xs => (enumD xs, none)) else .bad := (rfl)
@[simp] theorem argP_t_star  (p : Env → PO Rs) : argP true (.star ) p ρ = (p ρ).bind fun r => .ok (mk r.1 r.2) := (rfl)
@[simp] theorem argP_t_var (i : Nat) (p : Env → PO Rs) : argP true (.var i) p ρ = (shrV ρ[i]?).bind fun r => .ok (.shr r.2) := (rfl)
@[simp] theorem argP_f (c : CE) (p : Env → PO Rs) : argP false c p ρ = (p ρ).bind fun r => .ok (.shr r.2) := (rfl)
@[simp] theorem evPL_nil : evPL cf [] ρ = .ok [] := (rfl)
@[simp] theorem evPL_cons (e : CE) (es : List CE) : evPL cf (e :: es) ρ = (evV cf e ρ).bind fun r => (evPL cf es ρ).bind fun ds => .ok (r.2 :: ds) := (rfl)
@[simp] theorem evPA_nil (mu : List Nat) (j : Nat) : evPA cf mu j [] ρ = .ok [] := (rfl)
@[simp] theorem evPA_cons (mu : List Nat) (j : Nat) (e : CE) (es : List CE) : evPA cf mu j (e :: es) ρ = (argP (mu.contains j) e (evV cf e) ρ).bind fun a => (evPA cf mu (j + 1) es ρ).bind fun as => .ok (a :: as) := (rfl)
end
end Mi
end
section
namespace Mi
open PySem
def mapE {α β : Type} (e : α → β) (xs : List α) : List β := xs.map e
section
variable {α β γ : Type}
@[simp] theorem wipeE_nil (ρ : Env) : wipeE ρ [] = ρ := (rfl)
@[simp] theorem wipeE_cons (ρ : Env) (i : Nat) (r : List Nat) : wipeE ρ (i :: r) = (wipeE ρ r).set i .emp := (rfl)
@[simp] theorem lockE_none (ρ : Env) : lockE ρ none = ρ := (rfl)
@[simp] theorem lockE_some (ρ : Env) (i : Nat) : lockE ρ (some i) = ρ.set i .emp := (rfl)
@[simp] theorem tgL_nm (i : Nat) : tgL (.nm i) = [i] := (rfl)
@[simp] theorem tgL_tp (is : List Nat) : tgL (.tp is) = is := (rfl)
@[simp] theorem setT_nm (i : Nat) (x : D) (ρ : Env) : setT (.nm i) x ρ = some (ρ.set i (.shr x)) := (rfl)
@[simp] theorem setT_tp2 (i j : Nat) (x y : D) (ρ : Env) : setT (.tp [i, j]) (.tuple [x, y]) ρ = some ((ρ.set i (.shr x)).set j (.shr y)) := (rfl)
@[simp] theorem setT_tp3 (i j k : Nat) (x y z : D) (ρ : Env) : setT (.tp [i, j, k]) (.tuple [x, y, z]) ρ = some (((ρ.set i (.shr x)).set j (.shr y)).set k (.shr z)) := (rfl)
@[simp] theorem flatP_nil (f : β → PO (List α)) : flatP f [] = .ok [] := (rfl)
@[simp] theorem flatP_map (f : β → PO (List α)) (g : γ → β) : ∀ xs : List γ, flatP f (xs.map g) = flatP (fun x => f (g x)) xs
  | [] => rfl
  | x :: r => by rw [List.map_cons, flatP, flatP, flatP_map f g r]
@[simp] theorem mapE_app {δ : Type} (e : γ → δ) (xs ys : List γ) : mapE e xs ++ mapE e ys = mapE e (xs ++ ys) := by simp [mapE]
@[simp] theorem mapE_len {δ : Type} (e : γ → δ) (xs : List γ) : (mapE e xs).length = xs.length := by simp [mapE]
@[simp] theorem flatP_mapE (f : β → PO (List α)) (g : γ → β) (xs : List γ) : flatP f (mapE g xs) = flatP (fun x => f (g x)) xs := flatP_map f g xs
theorem flatP_congr {f g : β → PO (List α)} : ∀ {xs : List β}, (∀ x ∈ xs, f x = g x) → flatP f xs = flatP g xs
  | [], _ => rfl
  | x :: r, h => by rw [flatP, flatP, h x List.mem_cons_self, flatP_congr fun y hy => h y (List.mem_cons_of_mem _ hy)]
@[simp low] theorem flatP_ok (g : β → List α) : ∀ xs : List β, flatP (fun x => .ok (g x)) xs = .ok (xs.flatMap g)
  | [] => rfl
  | x :: r => by rw [flatP, flatP_ok g r, List.flatMap_cons]
@[simp] theorem flatMap_one (g : β → α) (xs : List β) : (xs.flatMap fun x => [g x]) = xs.map g := by
  induction xs with
  | nil => rfl
  | cons x r ih => rw [List.flatMap_cons, ih]; rfl
@[simp] theorem flatP_one (g : β → α) (xs : List β) : flatP (fun x => .ok [g x]) xs = .ok (mapE g xs) := by rw [flatP_ok, flatMap_one]; rfl
@[simp] theorem flatP_if (p : β → Bool) (g : β → α) (xs : List β) : flatP (fun x => if p x = true then .ok [g x] else .ok []) xs = .ok (mapE g (xs.filter p)) := by
  induction xs with
  | nil => rfl
  | cons x r ih =>
    rw [flatP, ih]
    cases h : p x <;> simp [h, mapE]
@[simp] theorem flatP_iff (p : β → Prop) [DecidablePred p] (g : β → α) (xs : List β) : flatP (fun x => if p x then .ok [g x] else .ok []) xs = .ok (mapE g (xs.filter fun x => decide (p x))) := by
  induction xs with
  | nil => rfl
  | cons x r ih =>
    rw [flatP, ih]
    by_cases h : p x <;> simp [h, mapE]
@[simp] theorem flatP_else (p : β → Prop) [DecidablePred p] (g : β → α) (xs : List β) : flatP (fun x => if p x then .ok [] else .ok [g x]) xs = .ok (mapE g (xs.filter fun x => !decide (p x))) := by
  induction xs with
  | nil => rfl
  | cons x r ih =>
    rw [flatP, ih]
    by_cases h : p x <;> simp [h, mapE]
@[simp] theorem flatP_nif (p : β → Bool) (g : β → α) (xs : List β) : flatP (fun x => if p x = false then .ok [g x] else .ok []) xs = .ok (mapE g (xs.filter fun x => !p x)) := by
  induction xs with
  | nil => rfl
  | cons x r ih =>
    rw [flatP, ih]
    cases h : p x <;> simp [h, mapE]
def flatQ (xs : List β) (f : (x : β) → x ∈ xs → PO (List α)) : PO (List α) := flatP (fun x : {x // x ∈ xs} => f x.1 x.2) xs.attach
theorem flatP_Q' (f : β → PO (List α)) (xs : List β) : flatP f xs = flatQ xs fun x _ => f x := by
  unfold flatQ
  have := flatP_map f (fun x : {x // x ∈ xs} => x.1) xs.attach
  rw [← this]
  congr 1
  simp
@[simp 10] theorem flatP_Q (f : β → PO (List α)) (xs : List β) : flatP f xs = flatQ xs fun x _ => f x := flatP_Q' f xs
theorem flatQ_P {xs : List β} {f : β → PO (List α)} : (flatQ xs fun x _ => f x) = flatP f xs := (flatP_Q' f xs).symm
@[simp low] theorem flatQ_ok (g : β → List α) (xs : List β) : (flatQ xs fun x _ => .ok (g x)) = .ok (xs.flatMap g) := by rw [flatQ_P, flatP_ok]
@[simp] theorem flatQ_one (g : β → α) (xs : List β) : (flatQ xs fun x _ => .ok [g x]) = .ok (mapE g xs) := by rw [flatQ_P, flatP_one]
@[simp] theorem flatQ_if (p : β → Bool) (g : β → α) (xs : List β) : (flatQ xs fun x _ => if p x = true then .ok [g x] else .ok []) = .ok (mapE g (xs.filter p)) := by rw [flatQ_P, flatP_if]
@[simp] theorem flatQ_iff (p : β → Prop) [DecidablePred p] (g : β → α) (xs : List β) : (flatQ xs fun x _ => if p x then .ok [g x] else .ok []) = .ok (mapE g (xs.filter fun x => decide (p x))) := by rw [flatQ_P, flatP_iff]
@[simp] theorem flatQ_else (p : β → Prop) [DecidablePred p] (g : β → α) (xs : List β) : (flatQ xs fun x _ => if p x then .ok [] else .ok [g x]) = .ok (mapE g (xs.filter fun x => !decide (p x))) := by rw [flatQ_P, flatP_else]
@[simp] theorem flatMap_mapE {γ : Type} (g : γ → α) (xs : List (List γ)) : xs.flatMap (mapE g) = mapE g xs.flatten := by
  unfold mapE
  induction xs with
  | nil => rfl
  | cons x r ih => rw [List.flatMap_cons, ih, List.flatten_cons, List.map_append]
@[simp] theorem ite_and_ok {p q : Prop} [Decidable p] [Decidable q] (x : List α) : (if p then (if q then PO.ok x else PO.ok []) else PO.ok []) = if p ∧ q then PO.ok x else PO.ok [] := by
  by_cases hp : p <;> by_cases hq : q <;> simp [hp, hq]
@[simp] theorem flatMap_map' {γ : Type} (g : γ → α) (f : β → List γ) (xs : List β) : (xs.flatMap fun x => mapE g (f x)) = mapE g (xs.flatMap f) := by
  unfold mapE
  rw [List.map_flatMap]
end
section
variable {α : Type}
@[simp] theorem toF_ok (a : α) (ρ : Env) (f : α → Env → Fw) : toF (.ok a ρ) f = f a ρ := (rfl)
@[simp] theorem toF_exc (a : Exn) (ρ : Env) (f : α → Env → Fw) : toF (.exc a ρ : Out α) f = .exc a ρ := (rfl)
@[simp] theorem Out.ok_bind {β : Type} (a : α) (ρ : Env) (f : α → Env → Out β) : (Out.ok a ρ).bind f = f a ρ := (rfl)
@[simp] theorem tru_bool (b : Bool) : tru (.bool b) = some b := (rfl)
@[simp] theorem asInt_int (i : Int) : asInt (.int i) = some i := (rfl)
@[simp] theorem isC_tuple (xs : List D) : isC (.tuple xs) = false := (rfl)
@[simp] theorem isC_list (xs : List D) : isC (.list xs) = true := (rfl)
@[simp] theorem isC_dict (xs : List (D × D)) : isC (.dict xs) = true := (rfl)
@[simp] theorem isC_int (i : Int) : isC (.int i) = false := (rfl)
@[simp] theorem isC_str (i : Str) : isC (.str i) = false := (rfl)
@[simp] theorem isC_bool (i : Bool) : isC (.bool i) = false := (rfl)
@[simp] theorem isC_none : isC .none = false := (rfl)
@[simp] theorem mk_false (d : D) : mk false d = .shr d := (rfl)
@[simp] theorem mk_list (xs : List D) : mk true (.list xs) = .own (.list xs) := (rfl)
@[simp] theorem mk_dict (xs : List (D × D)) : mk true (.dict xs) = .own (.dict xs) := (rfl)
@[simp] theorem isNon_none : isNon .none = true := (rfl)
@[simp] theorem isNon_tuple (xs : List D) : isNon (.tuple xs) = false := (rfl)
@[simp] theorem isNon_list (xs : List D) : isNon (.list xs) = false := (rfl)
@[simp] theorem isNon_dict (xs : List (D × D)) : isNon (.dict xs) = false := (rfl)
@[simp] theorem isNon_int (i : Int) : isNon (.int i) = false := (rfl)
@[simp] theorem isNon_str (i : Str) : isNon (.str i) = false := (rfl)
@[simp] theorem isNon_bool (i : Bool) : isNon (.bool i) = false := (rfl)
@[simp] theorem itemsW_tuple (xs : List D) : itemsW (.tuple xs) = some xs := (rfl)
@[simp] theorem itemsW_list (xs : List D) : itemsW (.list xs) = some xs := (rfl)
@[simp] theorem itemsW_str (z : Str) : itemsW (.str z) = some (mapE (fun c => .str ⟨#[c]⟩) z.cps.toList) := (rfl)
@[simp] theorem noStr_tuple (xs : List D) : noStr (.tuple xs) = true := (rfl)
@[simp] theorem noStr_list (xs : List D) : noStr (.list xs) = true := (rfl)
@[simp] theorem isiOk_tuple (xs : List D) : isiOk (.tuple xs) = true := (rfl)
@[simp] theorem isiOk_list (xs : List D) : isiOk (.list xs) = true := (rfl)
@[simp] theorem isiOk_int (i : Int) : isiOk (.int i) = true := (rfl)
@[simp] theorem isiOk_str (i : Str) : isiOk (.str i) = true := (rfl)
@[simp] theorem isiOk_bool (i : Bool) : isiOk (.bool i) = true := (rfl)
@[simp] theorem isiOk_none : isiOk .none = true := (rfl)
@[simp] theorem tyOf_str (z : Str) : tyOf (.str z) .str = true := (rfl)
@[simp] theorem tyOf_tuple (z : List D) : tyOf (.tuple z) .tuple = true := (rfl)
@[simp] theorem tyOf_list (z : List D) : tyOf (.list z) .list = true := (rfl)
@[simp] theorem lenD_tuple (xs : List D) : lenD (.tuple xs) = some xs.length := (rfl)
@[simp] theorem lenD_list (xs : List D) : lenD (.list xs) = some xs.length := (rfl)
@[simp] theorem idxOp_tuple (xs : List D) (i : Int) : idxOp (.tuple xs) (.int i) = L2.atI xs i := (rfl)
@[simp] theorem idxOp_list (xs : List D) (i : Int) : idxOp (.list xs) (.int i) = L2.atI xs i := (rfl)
end
@[simp] theorem outsOf_pure (np nl : Nat) (mu : List Nat) (fu : Nat) (b : List CS) (ρ : Env) : outsOf ⟨np, nl, [], mu, fu, b⟩ ρ = List.replicate np .emp := by
  unfold outsOf
  apply List.ext_getElem
  · simp
  · intro i h1 h2
    simp
theorem ssOk_pure (np nl : Nat) (mu : List Nat) (fu : Nat) (b : List CS) (ss : List Slot) : ssOk ⟨np, nl, [], mu, fu, b⟩ ss = (decide (ss.length = np) && ss.all fun s => !isOwn (some s)) := by
  unfold ssOk
  by_cases h : ss.length = np
  · subst h
    simp only [decide_true, Bool.true_and]
    rw [Bool.eq_iff_iff, List.all_eq_true, List.all_eq_true]
    constructor
    · intro k s hs
      obtain ⟨i, hi, e⟩ := List.getElem_of_mem hs
      have := k i (List.mem_range.mpr hi)
      rw [List.getElem?_eq_getElem hi, e] at this
      simpa using this
    · intro k i hi
      have hi := List.mem_range.mp hi
      rw [List.getElem?_eq_getElem hi]
      simpa using k _ (List.getElem_mem hi)
  · simp [h]
@[simp] theorem isOwn_shr (d : D) : isOwn (some (.shr d)) = false := (rfl)
@[simp] theorem isOwn_emp : isOwn (some .emp) = false := (rfl)
@[simp] theorem isOwn_own (d : D) : isOwn (some (.own d)) = true := (rfl)
def endP (np : Nat) : Fw → CRes
  | .nx _ => .ret (false, .none) (List.replicate np .emp)
  | .rt r _ => .ret r (List.replicate np .emp)
  | .mv _ x _ => .ret (true, x) (List.replicate np .emp)
  | .exc x _ => .exc x
  | _ => .bad
theorem callF_pure {P : Prg} {f : Str} {np nl : Nat} {mu : List Nat} {fu : Nat} {b : List CS} (h : P.lookup f = some ⟨np, nl, [], mu, fu, b⟩) (n : Nat) (ss : List Slot) (hl : ss.length = np) (ho : (ss.all fun s => !isOwn (some s)) = true) :
    callF P (n + 1) f ss = endP np (evSs ⟨callF P n, sigOf P, mu, [], fu⟩ b (ss ++ List.replicate (nl - np) .emp)) := by
  rw [callF, h]
  show (if ssOk _ ss = true then _ else _) = _
  rw [ssOk_pure, hl, ho]
  simp only [decide_true, Bool.true_and, if_true]
  show endF _ (evSs ⟨callF P n, sigOf P, mu, [], fu⟩ b (ss ++ List.replicate (nl - np) .emp)) = _
  cases evSs ⟨callF P n, sigOf P, mu, [], fu⟩ b (ss ++ List.replicate (nl - np) .emp) with
  | nx ρ => show CRes.ret _ (outsOf _ _) = _; rw [outsOf_pure]; rfl
  | rt r ρ => show CRes.ret _ (outsOf _ _) = _; rw [outsOf_pure]; rfl
  | mv i x ρ => show CRes.ret _ (outsOf _ _) = _; rw [outsOf_pure]; rfl
  | exc x ρ => rfl
  | bk ρ => rfl
  | bad => rfl
@[simp] theorem endP_nx (d : Nat) (ρ : Env) : endP d (.nx ρ) = .ret (false, .none) (List.replicate d .emp) := (rfl)
@[simp] theorem endP_rt (d : Nat) (r : Rs) (ρ : Env) : endP d (.rt r ρ) = .ret r (List.replicate d .emp) := (rfl)
@[simp] theorem endP_mv (d : Nat) (i : Nat) (x : D) (ρ : Env) : endP d (.mv i x ρ) = .ret (true, x) (List.replicate d .emp) := (rfl)
@[simp] theorem endP_exc (d : Nat) (x : Exn) (ρ : Env) : endP d (.exc x ρ) = .exc x := (rfl)
@[simp] theorem endP_ite (d : Nat) {c : Prop} [Decidable c] (a b : Fw) : endP d (if c then a else b) = if c then endP d a else endP d b := by split <;> rfl
@[simp] theorem endF_nx (d : Df) (ρ : Env) : endF d (.nx ρ) = .ret (false, .none) (outsOf d ρ) := (rfl)
@[simp] theorem endF_rt (d : Df) (r : Rs) (ρ : Env) : endF d (.rt r ρ) = .ret r (outsOf d ρ) := (rfl)
@[simp] theorem endF_mv (d : Df) (i : Nat) (x : D) (ρ : Env) : endF d (.mv i x ρ) = .ret (true, x) (outsOf d (ρ.set i .emp)) := (rfl)
@[simp] theorem endF_exc (d : Df) (x : Exn) (ρ : Env) : endF d (.exc x ρ) = .exc x := (rfl)
abbrev W (w : List Str) : D := .tuple (w.map .str)
theorem plain_strs : ∀ w : List Str, PyData.plainAll (w.map .str) = true
  | [] => rfl
  | x :: r => by
    show PyData.plainAll (.str x :: r.map .str) = true
    rw [PyData.plainAll, plain_strs r]
    rfl
theorem depth_strs : ∀ w : List Str, PyData.depthAll (w.map .str) = 0
  | [] => by simp [PyData.depthAll]
  | x :: r => by
    show PyData.depthAll (.str x :: r.map .str) = 0
    rw [PyData.depthAll, depth_strs r]
    simp [PyData.depth]
theorem inD_strs (x : Str) (w : List Str) : inD (.str x) (w.map .str) = some (w.contains x) := by
  unfold inD
  have e : ∀ w : List Str, eqOk (.str x) (.list (w.map .str)) = true := fun w => by
    unfold eqOk
    simp [PyData.plain, plain_strs, PyData.depth, depth_strs]
  rw [if_pos (e w)]
  congr 1
  induction w with
  | nil => rfl
  | cons y r ih =>
    rw [List.map_cons, List.any_cons, List.contains_cons, ih]
    congr 1
    show PyData.eqv (.str y) (.str x) = _
    simp [PyData.eqv, BEq.comm]
@[simp] theorem in_strsT (x : Str) (w : List Str) : inOp (.str x) (.tuple (w.map .str)) = some (w.contains x) := inD_strs x w
@[simp] theorem in_strsL (x : Str) (w : List Str) : inOp (.str x) (.list (w.map .str)) = some (w.contains x) := inD_strs x w
@[simp] theorem boolsD_map {α : Type} (g : α → Bool) : ∀ xs : List α, boolsD (xs.map fun x => .bool (g x)) = some (xs.map g)
  | [] => rfl
  | x :: r => by
    show (boolsD (r.map fun x => .bool (g x))).map (g x :: ·) = _
    rw [boolsD_map g r]
    rfl
@[simp] theorem all_map {α : Type} (g : α → Bool) (xs : List α) : b1Op .all (.list (xs.map fun x => .bool (g x))) = some (false, .bool (xs.all g)) := by
  show (boolsD (xs.map fun x => .bool (g x))).map (fun bs => ((false, .bool (bs.all id)) : Rs)) = _
  rw [boolsD_map]
  simp [List.all_map]
@[simp] theorem any_map {α : Type} (g : α → Bool) (xs : List α) : b1Op .any (.list (xs.map fun x => .bool (g x))) = some (false, .bool (xs.any g)) := by
  show (boolsD (xs.map fun x => .bool (g x))).map (fun bs => ((false, .bool (bs.any id)) : Rs)) = _
  rw [boolsD_map]
  simp [List.any_map]
end Mi
end
section
namespace Mi
open PySem PySem.W
def T {α : Type} (e : α → D) (xs : List α) : D := .tuple (xs.map e)
def Ls {α : Type} (e : α → D) (xs : List α) : D := .list (xs.map e)
def P2 {α β : Type} (e : α → D) (f : β → D) (p : α × β) : D := .tuple [e p.1, f p.2]
class Enc {α : Type} (e : α → D) (n : outParam Nat) : Prop where
  pl : ∀ a, (e a).plain = true
  dp : ∀ a, (e a).depth ≤ n
  al : ∀ a b, alike (e a) (e b) = true
  inj : ∀ a b, PyData.eqv (e a) (e b) = true → a = b
  nn : ∀ a, e a ≠ .none
section
variable {α β : Type} {e : α → D} {f : β → D} {n m : Nat}
theorem plainAll_map (h : ∀ a, (e a).plain = true) : ∀ xs : List α, PyData.plainAll (xs.map e) = true
  | [] => rfl
  | x :: r => by
    show PyData.plainAll (e x :: r.map e) = true
    rw [PyData.plainAll, plainAll_map h r, h x]
    rfl
theorem depthAll_map (h : ∀ a, (e a).depth ≤ n) : ∀ xs : List α, PyData.depthAll (xs.map e) ≤ n
  | [] => by simp [PyData.depthAll]
  | x :: r => by
    show PyData.depthAll (e x :: r.map e) ≤ n
    rw [PyData.depthAll]
    have := depthAll_map h r
    have := h x
    omega
theorem alikeAll_map (h : ∀ a b, alike (e a) (e b) = true) : ∀ xs ys : List α, alikeAll (xs.map e) (ys.map e) = true
  | [], ys => by simp [alikeAll]
  | x :: r, [] => by simp [alikeAll]
  | x :: r, y :: s => by
    show alikeAll (e x :: r.map e) (e y :: s.map e) = true
    rw [alikeAll, h x y, alikeAll_map h r s]
    rfl
theorem eqvAll_map (h : ∀ a b, PyData.eqv (e a) (e b) = true → a = b) : ∀ xs ys : List α, PyData.eqvAll (xs.map e) (ys.map e) = true → xs = ys
  | [], [], _ => rfl
  | [], y :: s, q => by simp [PyData.eqvAll] at q
  | x :: r, [], q => by simp [PyData.eqvAll] at q
  | x :: r, y :: s, q => by
    have q : PyData.eqvAll (e x :: r.map e) (e y :: s.map e) = true := q
    rw [PyData.eqvAll, Bool.and_eq_true] at q
    rw [h x y q.1, eqvAll_map h r s q.2]
instance encS : Enc PyData.str 0 where
  pl _ := rfl
  dp _ := by simp [PyData.depth]
  al _ _ := by simp [alike]
  inj a b h := by simpa [PyData.eqv] using h
  nn _ := nofun
instance encI : Enc PyData.int 0 where
  pl _ := rfl
  dp _ := by simp [PyData.depth]
  al _ _ := by simp [alike]
  inj a b h := by simpa [PyData.eqv] using h
  nn _ := nofun
instance encB : Enc PyData.bool 0 where
  pl _ := rfl
  dp _ := by simp [PyData.depth]
  al _ _ := by simp [alike]
  inj a b h := by simpa [PyData.eqv] using h
  nn _ := nofun
instance encT [h : Enc e n] : Enc (T e) (n + 1) where
  pl xs := by
    show PyData.plain (.tuple (xs.map e)) = true
    rw [PyData.plain, plainAll_map h.pl]
  dp xs := by
    show PyData.depth (.tuple (xs.map e)) ≤ n + 1
    rw [PyData.depth]
    have := depthAll_map h.dp xs
    omega
  al xs ys := by
    show alike (.tuple (xs.map e)) (.tuple (ys.map e)) = true
    rw [alike, alikeAll_map h.al]
  inj xs ys q := by
    have q : PyData.eqv (.tuple (xs.map e)) (.tuple (ys.map e)) = true := q
    rw [PyData.eqv] at q
    exact eqvAll_map h.inj xs ys q
  nn _ := nofun
instance encL [h : Enc e n] : Enc (Ls e) (n + 1) where
  pl xs := by
    show PyData.plain (.list (xs.map e)) = true
    rw [PyData.plain, plainAll_map h.pl]
  dp xs := by
    show PyData.depth (.list (xs.map e)) ≤ n + 1
    rw [PyData.depth]
    have := depthAll_map h.dp xs
    omega
  al xs ys := by
    show alike (.list (xs.map e)) (.list (ys.map e)) = true
    rw [alike, alikeAll_map h.al]
  inj xs ys q := by
    have q : PyData.eqv (.list (xs.map e)) (.list (ys.map e)) = true := q
    rw [PyData.eqv] at q
    exact eqvAll_map h.inj xs ys q
  nn _ := nofun
instance encP [h : Enc e n] [k : Enc f m] : Enc (P2 e f) (max n m + 1) where
  pl p := by
    show PyData.plain (.tuple [e p.1, f p.2]) = true
    rw [PyData.plain, PyData.plainAll, PyData.plainAll, PyData.plainAll, h.pl, k.pl]
    rfl
  dp p := by
    show PyData.depth (.tuple [e p.1, f p.2]) ≤ max n m + 1
    rw [PyData.depth, PyData.depthAll, PyData.depthAll, PyData.depthAll]
    have := h.dp p.1
    have := k.dp p.2
    omega
  al p q := by
    show alike (.tuple [e p.1, f p.2]) (.tuple [e q.1, f q.2]) = true
    rw [alike, alikeAll, alikeAll, alikeAll, h.al, k.al]
    rfl
  inj p q z := by
    have z : PyData.eqv (.tuple [e p.1, f p.2]) (.tuple [e q.1, f q.2]) = true := z
    rw [PyData.eqv, PyData.eqvAll, PyData.eqvAll, Bool.and_eq_true, Bool.and_eq_true] at z
    exact Prod.ext (h.inj _ _ z.1) (k.inj _ _ z.2.1)
  nn _ := nofun
theorem Enc.eq [h : Enc e n] (a b : α) : PyData.eqv (e a) (e b) = true ↔ a = b := ⟨h.inj a b, fun q => by rw [q]; exact eqv_refl_alike _ (h.al b b)⟩
theorem Enc.eqd [h : Enc e n] [DecidableEq α] (a b : α) : PyData.eqv (e a) (e b) = decide (a = b) := by
  rw [Bool.eq_iff_iff, Enc.eq (e := e) a b, decide_eq_true_eq]
theorem Enc.injE [h : Enc e n] {a b : α} (q : e a = e b) : a = b := h.inj a b (by rw [q]; exact eqv_refl_alike _ (h.al b b))
theorem eqOk_enc [h : Enc e n] (hn : n ≤ 64) (a b : α) : eqOk (e a) (e b) = true := by
  unfold eqOk
  rw [h.pl, h.pl]
  have := h.dp a
  simp only [Bool.and_self, Bool.true_and, decide_eq_true_eq]
  omega
@[simp] theorem eq_enc [h : Enc e n] [DecidableEq α] (hn : n ≤ 64) (a b : α) : cmpOp .Eq (e a) (e b) = some (decide (a = b)) := by
  show (if eqOk (e a) (e b) = true then some (PyData.eqv (e a) (e b)) else none) = _
  rw [if_pos (eqOk_enc hn a b), Enc.eqd]
@[simp] theorem ne_enc [h : Enc e n] [DecidableEq α] (hn : n ≤ 64) (a b : α) : cmpOp .NotEq (e a) (e b) = some (decide (a ≠ b)) := by
  show (if eqOk (e a) (e b) = true then some (!PyData.eqv (e a) (e b)) else none) = _
  rw [if_pos (eqOk_enc hn a b), Enc.eqd]
  simp
theorem eqOk_in [h : Enc e n] (hn : n ≤ 64) (a : α) (xs : List α) : eqOk (e a) (.list (xs.map e)) = true := by
  unfold eqOk
  have := (encL (e := e)).pl xs
  rw [h.pl, show PyData.plain (.list (xs.map e)) = true from this]
  have := h.dp a
  simp only [Bool.and_self, Bool.true_and, decide_eq_true_eq]
  omega
theorem inD_enc [h : Enc e n] [DecidableEq α] (hn : n ≤ 64) (a : α) (xs : List α) : inD (e a) (xs.map e) = some (decide (a ∈ xs)) := by
  unfold inD
  rw [if_pos (eqOk_in hn a xs)]
  congr 1
  induction xs with
  | nil => rfl
  | cons y r ih =>
    rw [List.map_cons, List.any_cons, ih, Enc.eqd]
    simp [eq_comm]
@[simp] theorem in_T [h : Enc e n] [DecidableEq α] (hn : n ≤ 64) (a : α) (xs : List α) : inOp (e a) (T e xs) = some (decide (a ∈ xs)) := by
  rw [← inD_enc (e := e) hn a xs]
  unfold T inOp
  cases e a <;> rfl
theorem in_tup [h : Enc e n] [DecidableEq α] (hn : n ≤ 64) (a : α) (xs : List α) : inOp (e a) (.tuple (xs.map e)) = some (decide (a ∈ xs)) := in_T hn a xs
@[simp] theorem in_L [h : Enc e n] [DecidableEq α] (hn : n ≤ 64) (a : α) (xs : List α) : inOp (e a) (Ls e xs) = some (decide (a ∈ xs)) := by
  rw [← inD_enc (e := e) hn a xs]
  unfold Ls inOp
  cases e a <;> rfl
theorem in_lst [h : Enc e n] [DecidableEq α] (hn : n ≤ 64) (a : α) (xs : List α) : inOp (e a) (.list (xs.map e)) = some (decide (a ∈ xs)) := in_L hn a xs
def lt (e : α → D) (a b : α) : Bool := dataLt (e a) (e b)
theorem lt_irrefl (a : α) : lt e a a = false := PyProof.Rows.lex_irrefl _
theorem lt_trans {a b c : α} (h : lt e a b = true) (k : lt e b c = true) : lt e a c = true := PyProof.Rows.lex_trans _ _ _ h k
theorem lt_total [h : Enc e n] {a b : α} (p : lt e a b = false) (q : lt e b a = false) : a = b := by
  have z := PyProof.Rows.lex_total _ _ p q
  have t := toks_eqv (e a) (e b) (h.al a b)
  cases ev : PyData.eqv (e a) (e b) with
  | true => exact h.inj _ _ ev
  | false =>
    have t2 := t.2 ev
    rw [z] at t2
    have t3 := fun l m => (lex_pre (keyToks (e b)) l m).symm.trans (t2 l m)
    have a1 := t3 [] []
    have a2 := t3 [] [.inl 0]
    rw [← a1] at a2
    exact absurd a2 (by decide)
theorem lt_ne {a b : α} (h : lt e a b = true) : a ≠ b := fun q => by rw [q, lt_irrefl] at h; cases h
theorem lt_asymm {a b : α} (h : lt e a b = true) : lt e b a = false := by
  cases k : lt e b a with
  | false => rfl
  | true => exact absurd (lt_trans h k) (by rw [lt_irrefl]; simp)
@[simp] theorem lt_str (x y : Str) : cmpOp .Lt (.str x) (.str y) = some (lt PyData.str x y) := by
  show some (strLt x y) = _
  unfold strLt lt
  rw [dataLt_str]
theorem ltD_tuple [h : Enc e n] (hn : n ≤ 63) (xs ys : List α) : cmpOp .Lt (T e xs) (T e ys) = some (lt (T e) xs ys) := by
  show (if (eqOk (T e xs) (T e ys) && alike (T e xs) (T e ys)) = true then some (dataLt (T e xs) (T e ys)) else none) = _
  rw [if_pos (by rw [eqOk_enc (by omega), (encT (e := e)).al]; rfl)]
  rfl
@[simp] theorem lt_T [h : Enc e n] (hn : n ≤ 63) (xs ys : List α) : cmpOp .Lt (T e xs) (T e ys) = some (lt (T e) xs ys) := ltD_tuple hn xs ys
@[simp] theorem lt_P2 [h : Enc e n] [k : Enc f m] (hn : n ≤ 63) (hm : m ≤ 63) (p q : α × β) : cmpOp .Lt (P2 e f p) (P2 e f q) = some (lt (P2 e f) p q) := by
  show (if (eqOk (P2 e f p) (P2 e f q) && alike (P2 e f p) (P2 e f q)) = true then some (dataLt (P2 e f p) (P2 e f q)) else none) = _
  rw [if_pos (by rw [eqOk_enc (by omega), (encP (e := e) (f := f)).al]; rfl)]
  rfl
def Asc (e : α → D) (xs : List α) : Prop := xs.Pairwise fun a b => lt e a b = true
theorem Asc.nodup {xs : List α} (h : Asc e xs) : xs.Nodup := List.Pairwise.imp (fun h => lt_ne h) h
theorem Asc.ext [h : Enc e n] : ∀ {xs ys : List α}, Asc e xs → Asc e ys → (∀ x, x ∈ xs ↔ x ∈ ys) → xs = ys
  | [], [], _, _, _ => rfl
  | [], y :: s, _, _, q => absurd ((q y).mpr List.mem_cons_self) (by simp)
  | x :: r, [], _, _, q => absurd ((q x).mp List.mem_cons_self) (by simp)
  | x :: r, y :: s, hx, hy, q => by
    have hx' := List.pairwise_cons.mp hx
    have hy' := List.pairwise_cons.mp hy
    have e1 : x = y := by
      rcases List.mem_cons.mp ((q x).mp List.mem_cons_self) with z | z
      · exact z
      · rcases List.mem_cons.mp ((q y).mpr List.mem_cons_self) with w | w
        · exact w.symm
        · have := lt_asymm (hy'.1 x z)
          rw [hx'.1 y w] at this
          cases this
    subst e1
    congr 1
    refine Asc.ext hx'.2 hy'.2 fun z => ⟨fun hz => ?_, fun hz => ?_⟩
    · rcases List.mem_cons.mp ((q z).mp (List.mem_cons_of_mem _ hz)) with w | w
      · exact absurd w.symm (lt_ne (hx'.1 z hz))
      · exact w
    · rcases List.mem_cons.mp ((q z).mpr (List.mem_cons_of_mem _ hz)) with w | w
      · exact absurd w.symm (lt_ne (hy'.1 z hz))
      · exact w
def ins (e : α → D) (x : α) : List α → List α
  | [] => [x]
  | y :: r => if lt e x y = true then x :: y :: r else if lt e y x = true then y :: ins e x r else y :: r
def srt (e : α → D) (xs : List α) : List α := xs.foldr (ins e) []
theorem mem_ins [h : Enc e n] (x z : α) : ∀ xs : List α, z ∈ ins e x xs ↔ z = x ∨ z ∈ xs
  | [] => by simp [ins]
  | y :: r => by
    unfold ins
    split
    · simp
    · split
      · rw [List.mem_cons, mem_ins x z r, List.mem_cons]
        constructor <;> rintro (q | q | q) <;> simp [q]
      · rename_i p q
        have : x = y := lt_total (by simpa using p) (by simpa using q)
        subst this
        simp
theorem asc_ins [h : Enc e n] (x : α) : ∀ xs : List α, Asc e xs → Asc e (ins e x xs)
  | [], _ => by simp [ins, Asc]
  | y :: r, k => by
    have k' := List.pairwise_cons.mp k
    unfold ins
    split
    · rename_i p
      refine List.pairwise_cons.mpr ⟨fun z hz => ?_, k⟩
      rcases List.mem_cons.mp hz with q | q
      · rw [q]; exact p
      · exact lt_trans p (k'.1 z q)
    · split
      · rename_i p
        refine List.pairwise_cons.mpr ⟨fun z hz => ?_, asc_ins x r k'.2⟩
        rcases (mem_ins x z r).mp hz with q | q
        · rw [q]; exact p
        · exact k'.1 z q
      · exact k
@[simp] theorem mem_srt [h : Enc e n] (z : α) (xs : List α) : z ∈ srt e xs ↔ z ∈ xs := by
  induction xs with
  | nil => rfl
  | cons x r ih =>
    show z ∈ ins e x (srt e r) ↔ _
    rw [mem_ins, ih, List.mem_cons]
theorem asc_srt [h : Enc e n] (xs : List α) : Asc e (srt e xs) := by
  induction xs with
  | nil => exact List.Pairwise.nil
  | cons x r ih => exact asc_ins x _ ih
theorem srt_ext [h : Enc e n] {xs ys : List α} (q : ∀ x, x ∈ xs ↔ x ∈ ys) : srt e xs = srt e ys := Asc.ext (asc_srt xs) (asc_srt ys) fun x => by rw [mem_srt, mem_srt, q]
theorem srt_asc [h : Enc e n] {xs : List α} (k : Asc e xs) : srt e xs = xs := Asc.ext (asc_srt xs) k fun x => by rw [mem_srt]
theorem srt_eq [h : Enc e n] {xs ys : List α} (k : Asc e ys) (q : ∀ x, x ∈ xs ↔ x ∈ ys) : srt e xs = ys := Asc.ext (asc_srt xs) k fun x => by rw [mem_srt, q]
theorem ins_len (x : α) : ∀ xs : List α, (ins e x xs).length ≤ xs.length + 1
  | [] => by simp [ins]
  | y :: r => by
    unfold ins
    have := ins_len x r
    split
    · simp
    · split <;> simp <;> omega
theorem srt_len (xs : List α) : (srt e xs).length ≤ xs.length := by
  induction xs with
  | nil => exact Nat.le_refl _
  | cons x r ih =>
    have := ins_len (e := e) x (srt e r)
    show (ins e x (srt e r)).length ≤ _
    simp only [List.length_cons]
    omega
theorem sortD_enc [h : Enc e n] {xs : List α} (nd : xs.Nodup) : sortD (xs.map e) = (srt e xs).map e := by
  have p : (sortD (xs.map e)).Perm (xs.map e) := List.mergeSort_perm _ _
  obtain ⟨ys, hys⟩ : ∃ ys : List α, sortD (xs.map e) = ys.map e := by
    have : ∀ l : List D, (∀ d ∈ l, ∃ a, e a = d) → ∃ ys : List α, l = ys.map e := fun l => by
      induction l with
      | nil => exact fun _ => ⟨[], rfl⟩
      | cons d l ih =>
        intro k
        obtain ⟨a, ha⟩ := k d List.mem_cons_self
        obtain ⟨ys, hy⟩ := ih fun d hd => k d (List.mem_cons_of_mem _ hd)
        exact ⟨a :: ys, by rw [List.map_cons, ha, ← hy]⟩
    refine this _ fun d hd => ?_
    obtain ⟨a, _, ha⟩ := List.mem_map.mp (p.mem_iff.mp hd)
    exact ⟨a, ha⟩
  rw [hys]
  congr 1
  have memE : ∀ (zs : List α) (x : α), e x ∈ zs.map e ↔ x ∈ zs := fun zs x => by
    rw [List.mem_map]
    exact ⟨fun ⟨a, ha, q⟩ => Enc.injE (e := e) q ▸ ha, fun q => ⟨x, q, rfl⟩⟩
  have ndE : ∀ zs : List α, zs.Nodup → (zs.map e).Nodup := fun zs q => List.pairwise_map.mpr (List.Pairwise.imp (fun h q => h (Enc.injE (e := e) q)) q)
  rw [hys] at p
  have nd' : ys.Nodup := by
    have := (p.nodup_iff).mpr (ndE xs nd)
    exact List.Pairwise.imp (fun h q => h (by rw [q])) (List.pairwise_map.mp this)
  have so : (ys.map e).Pairwise (fun a b => dataLe false (fun x => x) a b = true) := by
    rw [← hys]
    refine List.pairwise_mergeSort (fun a b c h1 h2 => ?_) (fun a b => ?_) _
    · have h1 : (!dataLt b a) = true := h1
      have h2 : (!dataLt c b) = true := h2
      show (!dataLt c a) = true
      rw [Bool.not_eq_true'] at h1 h2 ⊢
      cases z : dataLt c a with
      | false => rfl
      | true =>
        rcases PyProof.Rows.lex_negTrans _ (keyToks b) _ z with w | w
        · exact absurd (show dataLt c b = true from w) (by rw [h2]; simp)
        · exact absurd (show dataLt b a = true from w) (by rw [h1]; simp)
    · show ((!dataLt b a) || (!dataLt a b)) = true
      cases z : dataLt b a with
      | false => rfl
      | true =>
        cases w : dataLt a b with
        | false => rfl
        | true => exact absurd (PyProof.Rows.lex_trans _ _ _ z w) (by rw [PyProof.Rows.lex_irrefl]; simp)
  have as : Asc e ys := by
    have so' := List.pairwise_map.mp so
    refine (List.pairwise_and_iff.mpr ⟨so', nd'⟩).imp fun {a b} q => ?_
    have q1 : (!dataLt (e b) (e a)) = true := q.1
    cases z : lt e a b with
    | true => rfl
    | false => exact absurd (lt_total z (by simpa [lt] using q1)) q.2
  exact (srt_eq as fun x => by rw [← memE xs x, ← memE ys x, p.mem_iff]).symm
theorem isTup_cases [h : Enc e n] (hc : (∀ a, isTup1 (e a) = true) ∨ ∀ a, noTup (e a) = true) (hn : n ≤ 64) (xs : List α) : sortable (xs.map e) = true := by
  unfold sortable
  rw [Bool.and_eq_true, Bool.or_eq_true]
  constructor
  · rw [List.all_eq_true]
    intro d hd
    obtain ⟨a, _, rfl⟩ := List.mem_map.mp hd
    have := h.dp a
    rw [Bool.and_eq_true, Bool.and_eq_true]
    refine ⟨⟨h.pl a, ?_⟩, ?_⟩
    · simp only [decide_eq_true_eq]; omega
    · rw [List.all_eq_true]
      intro d hd
      obtain ⟨b, _, rfl⟩ := List.mem_map.mp hd
      exact h.al a b
  · rcases hc with hc | hc
    · left
      rw [List.all_eq_true]
      intro d hd
      obtain ⟨a, _, rfl⟩ := List.mem_map.mp hd
      exact hc a
    · right
      rw [List.all_eq_true]
      intro d hd
      obtain ⟨a, _, rfl⟩ := List.mem_map.mp hd
      exact hc a
theorem sort_strs {xs : List Str} (nd : xs.Nodup) : b1Op .sorted (.list (xs.map .str)) = some (true, .list ((srt PyData.str xs).map .str)) := by
  show (if sortable (xs.map .str) = true then some (true, PyData.list (sortD (xs.map .str))) else none) = _
  rw [if_pos (isTup_cases (e := PyData.str) (.inr fun _ => rfl) (by omega) xs), sortD_enc nd]
end
end Mi
end
section
namespace Mi
open PySem PySem.W
section
variable {α β γ : Type} (e : α → D) (f : β → D)
@[simp] theorem fold_T (xs : List α) : PyData.tuple (xs.map e) = T e xs := (rfl)
@[simp] theorem fold_L (xs : List α) : PyData.list (xs.map e) = Ls e xs := (rfl)
theorem T_map (g : γ → α) (xs : List γ) : T e (xs.map g) = T (fun x => e (g x)) xs := by unfold T; rw [List.map_map]; rfl
theorem L_map (g : γ → α) (xs : List γ) : Ls e (xs.map g) = Ls (fun x => e (g x)) xs := by unfold Ls; rw [List.map_map]; rfl
@[simp] theorem fold_TE (xs : List α) : PyData.tuple (mapE e xs) = T e xs := (rfl)
@[simp] theorem fold_LE (xs : List α) : PyData.list (mapE e xs) = Ls e xs := (rfl)
@[simp] theorem items_T (xs : List α) : itemsW (T e xs) = some (mapE e xs) := (rfl)
@[simp] theorem items_L (xs : List α) : itemsW (Ls e xs) = some (mapE e xs) := (rfl)
@[simp] theorem wkV_ownL (i : Nat) (xs : List α) : wkV i (some (.own (Ls e xs))) = .ok (mapE e xs, some i) := (rfl)
@[simp] theorem wkEV_ownL (i : Nat) (xs : List α) : wkEV i (some (.own (Ls e xs))) = .ok (enumD (mapE e xs), some i) := (rfl)
@[simp] theorem noStr_T (xs : List α) : noStr (T e xs) = true := (rfl)
@[simp] theorem noStr_L (xs : List α) : noStr (Ls e xs) = true := (rfl)
@[simp] theorem isiOk_T (xs : List α) : isiOk (T e xs) = true := (rfl)
@[simp] theorem isiOk_L (xs : List α) : isiOk (Ls e xs) = true := (rfl)
@[simp] theorem isiOk_P (p : α × β) : isiOk (P2 e f p) = true := (rfl)
@[simp] theorem tyOf_TT (xs : List α) : tyOf (T e xs) .tuple = true := (rfl)
@[simp] theorem tyOf_TL (xs : List α) : tyOf (T e xs) .list = false := (rfl)
@[simp] theorem tyOf_TS (xs : List α) : tyOf (T e xs) .str = false := (rfl)
@[simp] theorem tyOf_LL (xs : List α) : tyOf (Ls e xs) .list = true := (rfl)
@[simp] theorem tyOf_LT (xs : List α) : tyOf (Ls e xs) .tuple = false := (rfl)
@[simp] theorem tyOf_PT (p : α × β) : tyOf (P2 e f p) .tuple = true := (rfl)
@[simp] theorem tyOf_SS (s : Str) : tyOf (.str s) .str = true := (rfl)
@[simp] theorem tyOf_ST (s : Str) : tyOf (.str s) .tuple = false := (rfl)
@[simp] theorem isC_T (xs : List α) : isC (T e xs) = false := (rfl)
@[simp] theorem isC_L (xs : List α) : isC (Ls e xs) = true := (rfl)
@[simp] theorem isC_P (p : α × β) : isC (P2 e f p) = false := (rfl)
@[simp] theorem mk_L (xs : List α) : mk true (Ls e xs) = .own (Ls e xs) := (rfl)
@[simp] theorem mk_T (fl : Bool) (xs : List α) : mk fl (T e xs) = .shr (T e xs) := by cases fl <;> rfl
@[simp] theorem isNon_T (xs : List α) : isNon (T e xs) = false := (rfl)
@[simp] theorem isNon_L (xs : List α) : isNon (Ls e xs) = false := (rfl)
@[simp] theorem isNon_P (p : α × β) : isNon (P2 e f p) = false := (rfl)
@[simp] theorem len_T (xs : List α) : lenD (T e xs) = some xs.length := by show some (xs.map e).length = _; simp
@[simp] theorem len_L (xs : List α) : lenD (Ls e xs) = some xs.length := by show some (xs.map e).length = _; simp
theorem atI_map (xs : List α) (i : Int) : L2.atI (xs.map e) i = (L2.atI xs i).map e := by
  unfold L2.atI
  rw [List.length_map]
  cases L2.ixN xs.length i with
  | none => rfl
  | some j => simp
@[simp] theorem idx_T (xs : List α) (i : Int) : idxOp (T e xs) (.int i) = (L2.atI xs i).map e := atI_map e xs i
@[simp] theorem idx_L (xs : List α) (i : Int) : idxOp (Ls e xs) (.int i) = (L2.atI xs i).map e := atI_map e xs i
@[simp] theorem idx_P0 (p : α × β) : idxOp (P2 e f p) (.int 0) = some (e p.1) := (rfl)
@[simp] theorem idx_P1 (p : α × β) : idxOp (P2 e f p) (.int 1) = some (f p.2) := (rfl)
@[simp] theorem len_P (p : α × β) : lenD (P2 e f p) = some 2 := (rfl)
theorem atI_nonneg (xs : List α) (i : Int) (h : 0 ≤ i) : L2.atI xs i = xs[i.toNat]? := by
  unfold L2.atI L2.ixN
  rw [if_pos h]
  split
  · rfl
  · rename_i q
    rw [List.getElem?_eq_none (by omega)]
    rfl
@[simp] theorem atI_nat (xs : List α) (i : Nat) : L2.atI xs (i : Int) = xs[i]? := by rw [atI_nonneg _ _ (by omega)]; simp
@[simp] theorem atI_lit (xs : List α) (i : Nat) : L2.atI xs (no_index (OfNat.ofNat i : Int)) = xs[i]? := atI_nat xs i
@[simp] theorem atI_m1 (xs : List α) : L2.atI xs (-1) = xs[xs.length - 1]? := by
  unfold L2.atI L2.ixN
  rw [if_neg (by omega)]
  split
  · show xs[((-1 : Int) + xs.length).toNat]? = _
    congr 1
    omega
  · rename_i q
    have : xs = [] := List.eq_nil_of_length_eq_zero (by omega)
    subst this
    rfl
theorem cutD_map (xs : List α) (lo hi : Option Int) : cutD (xs.map e) lo hi = (cutD xs lo hi).map e := by
  unfold cutD
  rw [List.length_map, List.map_take, List.map_drop]
@[simp] theorem slc_T (xs : List α) (lo hi : Option Int) : slcOp (T e xs) lo hi = some (false, T e (cutD xs lo hi)) := by
  show some (false, PyData.tuple (cutD (xs.map e) lo hi)) = _
  rw [cutD_map]
  rfl
@[simp] theorem slc_L (xs : List α) (lo hi : Option Int) : slcOp (Ls e xs) lo hi = some (true, Ls e (cutD xs lo hi)) := by
  show some (true, PyData.list (cutD (xs.map e) lo hi)) = _
  rw [cutD_map]
  rfl
theorem cutD_lo (xs : List α) {i : Int} (h : 0 ≤ i) : cutD xs (some i) none = xs.drop i.toNat := by
  obtain ⟨k, rfl⟩ := Int.eq_ofNat_of_zero_le h
  unfold cutD
  rw [HT.sIx_none, HT.sIx_nat, Int.toNat_natCast]
  by_cases hk : k ≤ xs.length
  · rw [Nat.min_eq_left hk, List.take_of_length_le (by simp)]
  · rw [Nat.min_eq_right (by omega), List.drop_eq_nil_of_le (by omega), List.drop_eq_nil_of_le (by omega)]
    simp
theorem cutD_hi (xs : List α) {i : Int} (h : 0 ≤ i) : cutD xs none (some i) = xs.take i.toNat := by
  obtain ⟨k, rfl⟩ := Int.eq_ofNat_of_zero_le h
  unfold cutD
  rw [HT.sIx_none, HT.sIx_nat, Int.toNat_natCast]
  simp only [List.drop_zero, Nat.sub_zero]
  by_cases hk : k ≤ xs.length
  · rw [Nat.min_eq_left hk]
  · rw [Nat.min_eq_right (by omega), List.take_of_length_le (by omega), List.take_of_length_le (by omega)]
@[simp] theorem cutD_nat (xs : List α) (k : Nat) : cutD xs (some (k : Int)) none = xs.drop k := by rw [cutD_lo xs (by omega)]; simp
@[simp] theorem cutD_nat1 (xs : List α) (k : Nat) : cutD xs (some ((k : Int) + 1)) none = xs.drop (k + 1) := by rw [cutD_lo xs (by omega)]; rfl
@[simp] theorem cutD_lit (xs : List α) (k : Nat) : cutD xs (some (no_index (OfNat.ofNat k : Int))) none = xs.drop k := cutD_nat xs k
@[simp] theorem cutD_nath (xs : List α) (k : Nat) : cutD xs none (some (k : Int)) = xs.take k := by rw [cutD_hi xs (by omega)]; simp
@[simp] theorem cutD_lith (xs : List α) (k : Nat) : cutD xs none (some (no_index (OfNat.ofNat k : Int))) = xs.take k := cutD_nath xs k
@[simp] theorem cutD_all (xs : List α) : cutD xs none none = xs := by
  unfold cutD
  rw [HT.sIx_none, HT.sIx_none]
  simp
@[simp] theorem add_T (xs ys : List α) : binOp .Add (T e xs) (T e ys) = if xs.length + ys.length ≤ sizeLine then some (false, T e (xs ++ ys)) else none := by
  show (if (xs.map e).length + (ys.map e).length ≤ sizeLine then some (false, PyData.tuple (xs.map e ++ ys.map e)) else none) = _
  rw [List.length_map, List.length_map, ← List.map_append]
  rfl
@[simp] theorem add_L (xs ys : List α) : binOp .Add (Ls e xs) (Ls e ys) = if xs.length + ys.length ≤ sizeLine then some (true, Ls e (xs ++ ys)) else none := by
  show (if (xs.map e).length + (ys.map e).length ≤ sizeLine then some (true, PyData.list (xs.map e ++ ys.map e)) else none) = _
  rw [List.length_map, List.length_map, ← List.map_append]
  rfl
@[simp] theorem add_Tt (xs : List α) (ys : List D) : binOp .Add (T e xs) (.tuple ys) = if xs.length + ys.length ≤ sizeLine then some (false, .tuple (mapE e xs ++ ys)) else none := by
  show (if (xs.map e).length + ys.length ≤ sizeLine then some (false, PyData.tuple (xs.map e ++ ys)) else none) = _
  rw [List.length_map]
  rfl
@[simp] theorem add_tT (xs : List α) (ys : List D) : binOp .Add (.tuple ys) (T e xs) = if ys.length + xs.length ≤ sizeLine then some (false, .tuple (ys ++ mapE e xs)) else none := by
  show (if ys.length + (xs.map e).length ≤ sizeLine then some (false, PyData.tuple (ys ++ xs.map e)) else none) = _
  rw [List.length_map]
  rfl
@[simp] theorem add_Ll (xs : List α) (ys : List D) : binOp .Add (Ls e xs) (.list ys) = if xs.length + ys.length ≤ sizeLine then some (true, .list (mapE e xs ++ ys)) else none := by
  show (if (xs.map e).length + ys.length ≤ sizeLine then some (true, PyData.list (xs.map e ++ ys)) else none) = _
  rw [List.length_map]
  rfl
@[simp] theorem add_lL (xs : List α) (ys : List D) : binOp .Add (.list ys) (Ls e xs) = if ys.length + xs.length ≤ sizeLine then some (true, .list (ys ++ mapE e xs)) else none := by
  show (if ys.length + (xs.map e).length ≤ sizeLine then some (true, PyData.list (ys ++ xs.map e)) else none) = _
  rw [List.length_map]
  rfl
@[simp] theorem b1_len (d : D) : b1Op .len d = (lenD d).map fun (n : Nat) => (false, .int (n : Int)) := (rfl)
@[simp] theorem b1_tuple (d : D) : b1Op .tuple d = (tupleD d).map fun t => (false, t) := (rfl)
@[simp] theorem b1_list (d : D) : b1Op .list d = (listD d).map fun t => (true, t) := (rfl)
@[simp] theorem b1_dict (d : D) : b1Op .dict d = (dictD d).map fun t => (true, t) := (rfl)
@[simp] theorem b1_int (d : D) : b1Op .int d = (intD d).map fun t => (false, t) := (rfl)
@[simp] theorem intD_int (i : Int) : intD (.int i) = some (.int i) := (rfl)
@[simp] theorem tupleD_T (xs : List α) : tupleD (T e xs) = some (T e xs) := (rfl)
@[simp] theorem tupleD_L (xs : List α) : tupleD (Ls e xs) = some (T e xs) := (rfl)
@[simp] theorem tupleD_l (xs : List D) : tupleD (.list xs) = some (.tuple xs) := (rfl)
@[simp] theorem tupleD_t (xs : List D) : tupleD (.tuple xs) = some (.tuple xs) := (rfl)
@[simp] theorem listD_T (xs : List α) : listD (T e xs) = some (Ls e xs) := (rfl)
@[simp] theorem listD_L (xs : List α) : listD (Ls e xs) = some (Ls e xs) := (rfl)
@[simp] theorem listD_l (xs : List D) : listD (.list xs) = some (.list xs) := (rfl)
@[simp] theorem listD_t (xs : List D) : listD (.tuple xs) = some (.list xs) := (rfl)
@[simp] theorem rev_T (xs : List α) : revP (T e xs) = .ok (false, T e xs.reverse) := by
  show PO.ok (false, PyData.tuple (xs.map e).reverse) = _
  rw [← List.map_reverse]
  rfl
@[simp] theorem rev_L (xs : List α) : revP (Ls e xs) = .ok (true, Ls e xs.reverse) := by
  show PO.ok (true, PyData.list (xs.map e).reverse) = _
  rw [← List.map_reverse]
  rfl
@[simp] theorem enumD_map (xs : List α) : enumD (mapE e xs) = mapE (fun p => .tuple [.int p.2, e p.1]) xs.zipIdx := by
  unfold enumD mapE
  apply List.ext_getElem?
  intro i
  simp only [List.getElem?_mapIdx, List.getElem?_map, List.getElem?_zipIdx]
  cases xs[i]? <;> simp
@[simp] theorem enumD_len (xs : List D) : (enumD xs).length = xs.length := by simp [enumD]
theorem zipD_map : ∀ (xs : List α) (ys : List β), zipD (xs.map e) (ys.map f) = (xs.zip ys).map (P2 e f)
  | [], _ => rfl
  | _ :: _, [] => rfl
  | x :: r, y :: s => by
    show .tuple [e x, f y] :: zipD (r.map e) (s.map f) = _
    rw [zipD_map r s]
    rfl
@[simp] theorem zipP_TT (xs : List α) (ys : List β) : zipP (T e xs) (T f ys) = .ok (mapE (P2 e f) (xs.zip ys), none) := by
  show PO.ok (zipD (xs.map e) (ys.map f), none) = _
  rw [zipD_map]
  rfl
@[simp] theorem zipP_LL (xs : List α) (ys : List β) : zipP (Ls e xs) (Ls f ys) = .ok (mapE (P2 e f) (xs.zip ys), none) := by
  show PO.ok (zipD (xs.map e) (ys.map f), none) = _
  rw [zipD_map]
  rfl
@[simp] theorem setT_P (i j : Nat) (p : α × β) (ρ : Env) : setT (.tp [i, j]) (P2 e f p) ρ = some ((ρ.set i (.shr (e p.1))).set j (.shr (f p.2))) := (rfl)
@[simp] theorem all_L (g : α → Bool) (xs : List α) : b1Op .all (Ls (fun x => .bool (g x)) xs) = some (false, .bool (xs.all g)) := all_map g xs
@[simp] theorem any_L (g : α → Bool) (xs : List α) : b1Op .any (Ls (fun x => .bool (g x)) xs) = some (false, .bool (xs.any g)) := any_map g xs
end
@[simp] theorem cast_le_lit (n k : Nat) : ((n : Int) ≤ no_index (OfNat.ofNat k : Int)) ↔ n ≤ k := by
  show (n : Int) ≤ (k : Int) ↔ _
  omega
@[simp] theorem cast_lt_lit (n k : Nat) : ((n : Int) < no_index (OfNat.ofNat k : Int)) ↔ n < k := by
  show (n : Int) < (k : Int) ↔ _
  omega
@[simp] theorem lit_le_cast (n k : Nat) : (no_index (OfNat.ofNat k : Int) ≤ (n : Int)) ↔ k ≤ n := by
  show (k : Int) ≤ (n : Int) ↔ _
  omega
@[simp] theorem lit_lt_cast (n k : Nat) : (no_index (OfNat.ofNat k : Int) < (n : Int)) ↔ k < n := by
  show (k : Int) < (n : Int) ↔ _
  omega
@[simp] theorem cast_eq_lit (n k : Nat) : ((n : Int) = no_index (OfNat.ofNat k : Int)) ↔ n = k := by
  show (n : Int) = (k : Int) ↔ _
  omega
theorem size_eq : sizeLine = 16777216 := by rfl
@[simp] theorem lit_le_size (k : Nat) (h : k ≤ 16777216) : (no_index (OfNat.ofNat k : Nat)) ≤ sizeLine := h
@[simp] theorem lit_lt_size (k : Nat) (h : k < 16777216) : (no_index (OfNat.ofNat k : Nat)) < sizeLine := h
@[simp] theorem one_le_size : 1 ≤ sizeLine := by decide
@[simp] theorem zero_lt_size : 0 < sizeLine := by decide
section
variable {α : Type} (e : α → D)
@[simp] theorem fold_L1 (xs : List α) (y : α) : PyData.list (xs.map e ++ [e y]) = Ls e (xs ++ [y]) := by simp [Ls]
@[simp] theorem fold_T1 (xs : List α) (y : α) : PyData.tuple (xs.map e ++ [e y]) = T e (xs ++ [y]) := by simp [T]
@[simp] theorem fold_LE1 (xs : List α) (y : α) : PyData.list (mapE e xs ++ [e y]) = Ls e (xs ++ [y]) := fold_L1 e xs y
@[simp] theorem fold_TE1 (xs : List α) (y : α) : PyData.tuple (mapE e xs ++ [e y]) = T e (xs ++ [y]) := fold_T1 e xs y
@[simp] theorem fold_1L (xs : List α) (y : α) : PyData.list (e y :: xs.map e) = Ls e (y :: xs) := (rfl)
@[simp] theorem fold_1T (xs : List α) (y : α) : PyData.tuple (e y :: xs.map e) = T e (y :: xs) := (rfl)
end
@[simp] theorem len_S (z : Str) (h : z.length ≤ sizeLine) : lenD (.str z) = some z.length := by
  show (if z.length ≤ sizeLine then some z.length else none) = _
  rw [if_pos h]
@[simp] theorem in_sign (c : Nat) (z : Str) : inOp (.str ⟨#[c]⟩) (.str z) = some (decide (c ∈ z.cps.toList)) := by
  unfold inOp
  rfl
@[simp] theorem inD_snil (x : Str) : inD (.str x) [] = some false := by
  have := inD_strs x []
  simpa using this
@[simp] theorem inD_scons (x a : Str) (r : List D) : inD (.str x) (.str a :: r) = (inD (.str x) r).map fun b => decide (x = a) || b := by
  unfold inD
  have e : eqOk (.str x) (.list (.str a :: r)) = eqOk (.str x) (.list r) := by
    unfold eqOk
    rw [PyData.plain, PyData.plain, PyData.plain, PyData.plainAll, PyData.plain]
    simp [PyData.depth]
  rw [e]
  split
  · rw [List.any_cons, PyData.eqv, Option.map_some]
    have : (a == x) = decide (x = a) := by
      rw [Bool.eq_iff_iff, beq_iff_eq, decide_eq_true_eq]
      exact eq_comm
    rw [this]
  · rfl
@[simp] theorem in_tuple (x : Str) (r : List D) : inOp (.str x) (.tuple r) = inD (.str x) r := (rfl)
@[simp] theorem in_list (x : Str) (r : List D) : inOp (.str x) (.list r) = inD (.str x) r := (rfl)
@[simp] theorem b1_lenset (d : D) : b1Op .lenset d = (lensetD d).map fun (n : Nat) => (false, .int (n : Int)) := (rfl)
theorem strsD_map : ∀ xs : List Str, strsD (xs.map .str) = some xs
  | [] => rfl
  | x :: r => by
    show (strsD (r.map .str)).map (x :: ·) = _
    rw [strsD_map r]
    rfl
@[simp] theorem lenset_T (xs : List Str) (h : xs.length ≤ 4000) : lensetD (T .str xs) = some (ddS xs).length := by
  show (strsD (xs.map .str)).bind (fun xs => if xs.length ≤ 4000 then some (ddS xs).length else none) = _
  rw [strsD_map]
  exact if_pos h
@[simp] theorem lenset_L (xs : List Str) (h : xs.length ≤ 4000) : lensetD (Ls .str xs) = some (ddS xs).length := by
  show (strsD (xs.map .str)).bind (fun xs => if xs.length ≤ 4000 then some (ddS xs).length else none) = _
  rw [strsD_map]
  exact if_pos h
section
variable (i j : Int)
@[simp] theorem bin_add : binOp .Add (.int i) (.int j) = some (false, .int (i + j)) := (rfl)
@[simp] theorem bin_sub : binOp .Sub (.int i) (.int j) = some (false, .int (i - j)) := (rfl)
@[simp] theorem bin_mul : binOp .Mult (.int i) (.int j) = if mulOk i j = true then some (false, .int (i * j)) else none := (rfl)
@[simp] theorem bin_mod : binOp .Mod (.int i) (.int j) = if 0 < j then some (false, .int (i % j)) else none := (rfl)
@[simp] theorem bin_fdiv : binOp .FloorDiv (.int i) (.int j) = if divOk j = true then some (false, .int (i / j)) else none := (rfl)
@[simp] theorem b2_min : b2Op .min (.int i) (.int j) = some (false, .int (if j < i then j else i)) := (rfl)
@[simp] theorem b2_max : b2Op .max (.int i) (.int j) = some (false, .int (if j > i then j else i)) := (rfl)
@[simp] theorem cmp_eqI : cmpOp .Eq (.int i) (.int j) = some (decide (i = j)) := eq_enc (e := PyData.int) (by omega) i j
@[simp] theorem cmp_neI : cmpOp .NotEq (.int i) (.int j) = some (decide (i ≠ j)) := ne_enc (e := PyData.int) (by omega) i j
@[simp] theorem cmp_ltI : cmpOp .Lt (.int i) (.int j) = some (decide (i < j)) := (rfl)
@[simp] theorem cmp_gtI : cmpOp .Gt (.int i) (.int j) = some (decide (j < i)) := (rfl)
@[simp] theorem cmp_leI : cmpOp .LtE (.int i) (.int j) = some (decide (i ≤ j)) := (rfl)
@[simp] theorem cmp_geI : cmpOp .GtE (.int i) (.int j) = some (decide (j ≤ i)) := (rfl)
@[simp] theorem cmp_eqS (x y : Str) : cmpOp .Eq (.str x) (.str y) = some (decide (x = y)) := eq_enc (e := PyData.str) (by omega) x y
@[simp] theorem cmp_neS (x y : Str) : cmpOp .NotEq (.str x) (.str y) = some (decide (x ≠ y)) := ne_enc (e := PyData.str) (by omega) x y
end
@[simp] theorem rngOk_lit (k : Nat) (h : k < 4611686018427387904) : rngOk (no_index (OfNat.ofNat k : Int)) = true := by
  show rngOk (k : Int) = true
  unfold rngOk
  rw [Bool.and_eq_true, decide_eq_true_eq, decide_eq_true_eq]
  omega
theorem rngOk_nat (k : Nat) (h : k < 4611686018427387904) : rngOk (k : Int) = true := rngOk_lit k h
theorem rngOk_int {i : Int} (h : 0 ≤ i) (k : i < 4611686018427387904) : rngOk i = true := by
  obtain ⟨n, rfl⟩ := Int.eq_ofNat_of_zero_le h
  exact rngOk_nat n (by omega)
@[simp] theorem rngOk_m1 : rngOk (-1) = true := by decide
@[simp] theorem rng1K_eq (f : Bool) (i : Int) : rng1K (f, .int i) = if rngOk i = true then .ok (mapE (fun (j : Nat) => .int (j : Int)) (List.range i.toNat), none) else .bad := by
  have e : rngD 0 i.toNat = mapE (fun (j : Nat) => .int (j : Int)) (List.range i.toNat) := by
    unfold rngD mapE
    simp
  show liftP (if rngOk i = true then some (rngD 0 i.toNat, none) else none) = _
  rw [e]
  cases rngOk i <;> rfl
@[simp] theorem rng2K_eq (f g : Bool) (i j : Int) : rng2K (f, .int i) (g, .int j) = if rngOk i = true ∧ rngOk j = true then .ok (mapE (fun (k : Nat) => .int (i + (k : Int))) (List.range (j - i).toNat), none) else .bad := by
  show liftP (if rngOk i = true ∧ rngOk j = true then some (rngD i (j - i).toNat, none) else none) = _
  cases rngOk i <;> cases rngOk j <;> rfl
@[simp] theorem rng3K_eq (f g h : Bool) (i j : Int) : rng3K (f, .int i) (g, .int j) (h, .int (-1)) = if rngOk i = true ∧ rngOk j = true then .ok (mapE (fun (k : Nat) => .int (i - (k : Int))) (List.range (i - j).toNat), none) else .bad := by
  show liftP (if (-1 : Int) = -1 ∧ rngOk i = true ∧ rngOk j = true then some (rngDn i (i - j).toNat, none) else none) = _
  cases rngOk i <;> cases rngOk j <;> rfl
@[simp] theorem lrngK_eq (f : Bool) (i : Int) : lrngK (f, .int i) = if rngOk i = true ∧ i.toNat ≤ sizeLine then .ok (true, Ls (fun (j : Nat) => .int (j : Int)) (List.range i.toNat)) else .bad := by
  have e : rngD 0 i.toNat = mapE (fun (j : Nat) => .int (j : Int)) (List.range i.toNat) := by
    unfold rngD mapE
    simp
  show liftP (if rngOk i = true ∧ i.toNat ≤ sizeLine then some (true, PyData.list (rngD 0 i.toNat)) else none) = _
  rw [e]
  cases rngOk i <;> by_cases q : i.toNat ≤ sizeLine <;> simp [q]
@[simp] theorem rngD_mapE (lo : Int) (n : Nat) : rngD lo n = mapE (fun (i : Nat) => .int (lo + (i : Int))) (List.range n) := (rfl)
@[simp] theorem rngDn_mapE (lo : Int) (n : Nat) : rngDn lo n = mapE (fun (i : Nat) => .int (lo - (i : Int))) (List.range n) := (rfl)
theorem max_ints {ns : List Int} {n : Int} (h : n ∈ ns) : ∃ m, maxL ns = some m ∧ m ∈ ns ∧ ∀ k ∈ ns, k ≤ m := by
  cases ns with
  | nil => cases h
  | cons a r =>
    have : ∀ (r : List Int) (a : Int), (r.foldl (fun a b => if a < b then b else a) a) ∈ a :: r ∧ ∀ k ∈ a :: r, k ≤ r.foldl (fun a b => if a < b then b else a) a := fun r => by
      induction r with
      | nil => intro a; simp
      | cons b r ih =>
        intro a
        rw [List.foldl_cons]
        split
        · rename_i q
          obtain ⟨h1, h2⟩ := ih b
          refine ⟨List.mem_cons_of_mem _ h1, fun k hk => ?_⟩
          rcases List.mem_cons.mp hk with z | z
          · have := h2 b List.mem_cons_self
            omega
          · exact h2 k z
        · rename_i q
          obtain ⟨h1, h2⟩ := ih a
          refine ⟨?_, fun k hk => ?_⟩
          · rcases List.mem_cons.mp h1 with z | z
            · rw [z]; exact List.mem_cons_self
            · exact List.mem_cons_of_mem _ (List.mem_cons_of_mem _ z)
          · rcases List.mem_cons.mp hk with z | z
            · rw [z]; exact h2 a List.mem_cons_self
            · rcases List.mem_cons.mp z with z | z
              · have := h2 a List.mem_cons_self
                omega
              · exact h2 k (List.mem_cons_of_mem _ z)
    exact ⟨_, rfl, this r a⟩
end Mi
end
section
namespace Mi
open PySem PySem.W
@[simp] theorem PO.bind_ite {α β : Type} {c : Prop} [Decidable c] (p q : PO α) (f : α → PO β) : (if c then p else q).bind f = if c then p.bind f else q.bind f := by split <;> rfl
@[simp] theorem sel_ite {α : Type} {c : Prop} [Decidable c] (p q : PO α) (ρ : Env) (o : Out α) : sel (if c then p else q) ρ o = if c then sel p ρ o else sel q ρ o := by split <;> rfl
@[simp] theorem toF_ite {α : Type} {c : Prop} [Decidable c] (p q : Out α) (f : α → Env → Fw) : toF (if c then p else q) f = if c then toF p f else toF q f := by split <;> rfl
@[simp] theorem Out.bind_ite {α β : Type} {c : Prop} [Decidable c] (p q : Out α) (f : α → Env → Out β) : (if c then p else q).bind f = if c then p.bind f else q.bind f := by split <;> rfl
def resP : CRes → PO Rs
  | .ret r _ => .ok r
  | .exc x => .exc x
  | .bad => .bad
@[simp] theorem resP_ret (r : Rs) (outs : List Slot) : resP (.ret r outs) = .ok r := (rfl)
@[simp] theorem resP_exc (x : Exn) : resP (.exc x) = .exc x := (rfl)
@[simp] theorem callP_eq (call : Str → List Slot → CRes) (sig : Str → List Nat) (mu fx : List Nat) (fuel : Nat) (f : Str) (ss : List Slot) : callP ⟨call, sig, mu, fx, fuel⟩ f ss = resP (call f ss) := by
  unfold callP resP
  rfl
def seqF (f : Fw) (k : Env → Fw) : Fw := match f with
  | .nx ρ => k ρ
  | f => f
@[simp] theorem seqF_nx (ρ : Env) (k : Env → Fw) : seqF (.nx ρ) k = k ρ := (rfl)
@[simp] theorem seqF_rt (r : Rs) (ρ : Env) (k : Env → Fw) : seqF (.rt r ρ) k = .rt r ρ := (rfl)
@[simp] theorem seqF_mv (i : Nat) (d : D) (ρ : Env) (k : Env → Fw) : seqF (.mv i d ρ) k = .mv i d ρ := (rfl)
@[simp] theorem seqF_bk (ρ : Env) (k : Env → Fw) : seqF (.bk ρ) k = .bk ρ := (rfl)
@[simp] theorem seqF_exc (x : Exn) (ρ : Env) (k : Env → Fw) : seqF (.exc x ρ) k = .exc x ρ := (rfl)
@[simp] theorem seqF_ite {c : Prop} [Decidable c] (a b : Fw) (k : Env → Fw) : seqF (if c then a else b) k = if c then seqF a k else seqF b k := by split <;> rfl
@[simp] theorem evSs_nil (cf : Cf) (ρ : Env) : evSs cf [] ρ = .nx ρ := by rw [evSs]
@[simp] theorem evSs_cons (cf : Cf) (c : CS) (cs : List CS) (ρ : Env) : evSs cf (c :: cs) ρ = seqF (evS cf c ρ) (evSs cf cs) := by
  rw [evSs]
  unfold seqF
  cases evS cf c ρ <;> rfl
@[simp] theorem endF_ite (d : Df) {c : Prop} [Decidable c] (a b : Fw) : endF d (if c then a else b) = if c then endF d a else endF d b := by split <;> rfl
theorem stOk_one (call : Str → List Slot → CRes) (sig : Str → List Nat) (mu fx : List Nat) (fuel : Nat) (i : Nat) : stOk ⟨call, sig, mu, fx, fuel⟩ [i] = !fx.contains i := by
  simp [stOk]
section
variable (cf : Cf) (ρ : Env)
def nxK (_ : Rs) (ρ' : Env) : Fw := .nx ρ'
@[simp] theorem nxK_eq (r : Rs) (ρ' : Env) : nxK r ρ' = .nx ρ' := (rfl)
@[simp] theorem evS_exp (c : CE) : evS cf (.exp c) ρ = toF (evE cf c ρ) nxK := by rw [evS]; rfl
def putS (cf : Cf) (i : Nat) (r : Rs) (ρ : Env) : Fw := if stOk cf [i] = true then .nx (ρ.set i (if cf.mu.contains i = true then mk r.1 r.2 else .shr r.2)) else .bad
@[simp] theorem putS_mk (call : Str → List Slot → CRes) (sig : Str → List Nat) (mu fx : List Nat) (fuel : Nat) (i : Nat) (r : Rs) : putS ⟨call, sig, mu, fx, fuel⟩ i r ρ = if fx.contains i = true then .bad else .nx (ρ.set i (if mu.contains i = true then mk r.1 r.2 else .shr r.2)) := by
  unfold putS
  rw [stOk_one]
  cases fx.contains i <;> rfl
theorem evS_asg (c : CE) (i : Nat) (h : stOk cf [i] = true) : evS cf (.asg i c) ρ = toF (evE cf c ρ) (putS cf i) := by
  rw [evS, if_pos h]
  congr 1
  funext r ρ'
  unfold putS
  rw [if_pos h]
@[simp] theorem evS_asg' (call : Str → List Slot → CRes) (sig : Str → List Nat) (mu fx : List Nat) (fuel : Nat) (c : CE) (i : Nat) (h : fx.contains i = false) : evS ⟨call, sig, mu, fx, fuel⟩ (.asg i c) ρ = toF (evE ⟨call, sig, mu, fx, fuel⟩ c ρ) (putS ⟨call, sig, mu, fx, fuel⟩ i) :=
  evS_asg _ _ _ _ (by rw [stOk_one, h]; rfl)
def setF (is : List Nat) (r : Rs) (ρ : Env) : Fw := match setT (.tp is) r.2 ρ with
  | some ρ2 => .nx ρ2
  | none => .bad
@[simp] theorem evS_asgT (call : Str → List Slot → CRes) (sig : Str → List Nat) (mu fx : List Nat) (fuel : Nat) (c : CE) (is : List Nat) (h : (is.all fun i => !fx.contains i) = true) : evS ⟨call, sig, mu, fx, fuel⟩ (.asgT is c) ρ = toF (evE ⟨call, sig, mu, fx, fuel⟩ c ρ) (setF is) := by
  rw [evS, if_pos (show stOk ⟨call, sig, mu, fx, fuel⟩ is = true from h)]
  rfl
theorem setF_some {is : List Nat} {r : Rs} {ρ ρ' : Env} (h : setT (.tp is) r.2 ρ = some ρ') : setF is r ρ = .nx ρ' := by
  unfold setF
  rw [h]
@[simp] theorem setF_2 (i j : Nat) (f : Bool) (x y : D) : setF [i, j] (f, .tuple [x, y]) ρ = .nx ((ρ.set i (.shr x)).set j (.shr y)) := (rfl)
@[simp] theorem setF_P {α β : Type} (i j : Nat) (f : Bool) (e : α → D) (g : β → D) (p : α × β) : setF [i, j] (f, P2 e g p) ρ = .nx ((ρ.set i (.shr (e p.1))).set j (.shr (g p.2))) := (rfl)
def appF (i : Nat) (r : Rs) (ρ : Env) : Fw := match ρ[i]? with
  | some (.own (.list xs)) => if xs.length < sizeLine then .nx (ρ.set i (.own (.list (xs ++ [r.2])))) else .bad
  | _ => .bad
theorem appF_l {i : Nat} {r : Rs} {ρ : Env} {xs : List D} (h : ρ[i]? = some (.own (.list xs))) (hl : xs.length < sizeLine) : appF i r ρ = .nx (ρ.set i (.own (.list (xs ++ [r.2])))) := by
  unfold appF
  rw [h]
  exact if_pos hl
def appV (i : Nat) (d : D) (s : Option Slot) (ρ : Env) : Fw := match s with
  | some (.own (.list xs)) => if xs.length < sizeLine then .nx (ρ.set i (.own (.list (xs ++ [d])))) else .bad
  | _ => .bad
@[simp] theorem appF_eq (i : Nat) (r : Rs) (ρ : Env) : appF i r ρ = appV i r.2 ρ[i]? ρ := (rfl)
@[simp] theorem appV_l (i : Nat) (d : D) (xs : List D) (ρ : Env) : appV i d (some (.own (.list xs))) ρ = if xs.length < sizeLine then .nx (ρ.set i (.own (.list (xs ++ [d])))) else .bad := (rfl)
@[simp] theorem appV_L {α : Type} (i : Nat) (d : D) (e : α → D) (xs : List α) (ρ : Env) : appV i d (some (.own (Ls e xs))) ρ = if xs.length < sizeLine then .nx (ρ.set i (.own (.list (xs.map e ++ [d])))) else .bad := by
  show (if (xs.map e).length < sizeLine then _ else _) = _
  rw [List.length_map]
def isOwnL : Option Slot → Bool
  | some (.own (.list _)) => true
  | _ => false
@[simp] theorem isOwnL_l (xs : List D) : isOwnL (some (.own (.list xs))) = true := (rfl)
@[simp] theorem isOwnL_L {α : Type} (e : α → D) (xs : List α) : isOwnL (some (.own (Ls e xs))) = true := (rfl)
@[simp] theorem evS_app (i : Nat) (c : CE) (h : isOwnL ρ[i]? = true) : evS cf (.app i c) ρ = toF (evE cf c ρ) (appF i) := by
  rw [evS]
  cases q : ρ[i]? with
  | none => rw [q] at h; cases h
  | some s =>
    rw [q] at h
    cases s with
    | own d =>
      cases d with
      | list xs => rfl
      | _ => cases h
    | _ => cases h
def retF (i : Nat) (s : Option Slot) (cf : Cf) (ρ : Env) : Fw := match s with
  | some (.own d) => if stOk cf [i] = true then .mv i d ρ else .rt (false, d) (ρ.set i (.shr d))
  | some (.shr d) => .rt (false, d) ρ
  | _ => .bad
@[simp] theorem retF_shr (i : Nat) (d : D) : retF i (some (.shr d)) cf ρ = .rt (false, d) ρ := (rfl)
@[simp] theorem retF_own (call : Str → List Slot → CRes) (sig : Str → List Nat) (mu fx : List Nat) (fuel : Nat) (i : Nat) (d : D) : retF i (some (.own d)) ⟨call, sig, mu, fx, fuel⟩ ρ = if fx.contains i = true then .rt (false, d) (ρ.set i (.shr d)) else .mv i d ρ := by
  unfold retF
  simp only [stOk_one]
  cases fx.contains i <;> rfl
@[simp] theorem evS_retV (i : Nat) : evS cf (.ret (.var i)) ρ = retF i ρ[i]? cf ρ := by
  rw [evS]
  rfl
def rtK (r : Rs) (ρ' : Env) : Fw := .rt r ρ'
@[simp] theorem rtK_eq (r : Rs) (ρ' : Env) : rtK r ρ' = .rt r ρ' := (rfl)
@[simp] theorem evS_retE (c : CE) (h : isVar c = false) : evS cf (.ret c) ρ = toF (evE cf c ρ) rtK := Mi.evS_ret h
@[simp] theorem evS_retN : evS cf .retN ρ = .rt (false, .none) ρ := by rw [evS]
@[simp] theorem evS_pas : evS cf .pas ρ = .nx ρ := by rw [evS]
@[simp] theorem evS_brk : evS cf .brk ρ = .bk ρ := by rw [evS]
def iteF (o : Option Bool) (a b : Fw) : Fw := match o with
  | some t => if t = true then a else b
  | none => .bad
@[simp] theorem iteF_some (t : Bool) (a b : Fw) : iteF (some t) a b = if t = true then a else b := (rfl)
def iteK (cf : Cf) (t e : List CS) (r : Rs) (ρ' : Env) : Fw := iteF (tru r.2) (evSs cf t ρ') (evSs cf e ρ')
@[simp] theorem iteK_bool (t e : List CS) (f b : Bool) (ρ' : Env) : iteK cf t e (f, .bool b) ρ' = if b = true then evSs cf t ρ' else evSs cf e ρ' := (rfl)
@[simp] theorem evS_ite (c : CE) (t e : List CS) : evS cf (.ite c t e) ρ = toF (evE cf c ρ) (iteK cf t e) := by
  rw [evS]
  congr 1
  funext r ρ'
  unfold iteK iteF
  cases tru r.2 with
  | none => rfl
  | some b => cases b <;> rfl
def forF (cf : Cf) (tg : Tg) (b : List CS) (xl : List D × Option Nat) (ρ : Env) : Fw := match unlE ρ xl.2 with
  | some ρ2 => forW tg (evSs cf b) xl.1 ρ2
  | none => .bad
@[simp] theorem forF_none (tg : Tg) (b : List CS) (xs : List D) : forF cf tg b (xs, none) ρ = forW tg (evSs cf b) xs ρ := (rfl)
@[simp] theorem evS_for (call : Str → List Slot → CRes) (sig : Str → List Nat) (mu fx : List Nat) (fuel : Nat) (tg : Tg) (it : CE) (b : List CS) (h : ((tgL tg).all fun i => !fx.contains i) = true) : evS ⟨call, sig, mu, fx, fuel⟩ (.for tg it b) ρ = toF (evI ⟨call, sig, mu, fx, fuel⟩ it ρ) (forF ⟨call, sig, mu, fx, fuel⟩ tg b) := by
  rw [evS, if_pos (show stOk ⟨call, sig, mu, fx, fuel⟩ (tgL tg) = true from h)]
  rfl
def truK (r : Rs) (ρ : Env) : Out Bool := lift (tru r.2) ρ
@[simp] theorem truK_bool (f b : Bool) (ρ : Env) : truK (f, .bool b) ρ = .ok b ρ := (rfl)
def whlC (cf : Cf) (c : CE) (ρ : Env) : Out Bool := (evE cf c ρ).bind truK
@[simp] theorem whlC_eq (cf : Cf) (c : CE) (ρ : Env) : whlC cf c ρ = (evE cf c ρ).bind truK := (rfl)
@[simp] theorem evS_whl (call : Str → List Slot → CRes) (sig : Str → List Nat) (mu fx : List Nat) (fuel : Nat) (c : CE) (b : List CS) : evS ⟨call, sig, mu, fx, fuel⟩ (.whl c b) ρ = whlW (whlC ⟨call, sig, mu, fx, fuel⟩ c) (evSs ⟨call, sig, mu, fx, fuel⟩ b) fuel ρ := by rw [evS]; rfl
@[simp] theorem isVar_var (i : Nat) : isVar (.var i) = true := (rfl)
def subF (i : Nat) (cf : Cf) (k : CE) (r : Rs) (ρ1 : Env) : Fw := match ρ1[i]? with
  | some (.own _) => toF (evE cf k ρ1) fun x ρ2 => match ρ2[i]? with
    | some (.own d) => match setOp d x.2 r.2 with
      | some d' => .nx (ρ2.set i (.own d'))
      | none => .bad
    | _ => .bad
  | _ => .bad
@[simp] theorem evS_sub (i : Nat) (k v : CE) : evS cf (.sub i k v) ρ = toF (evE cf v ρ) (subF i cf k) := by
  rw [evS]
  rfl
end
@[simp] theorem blkB_P {α β γ : Type} (i j : Nat) (f : Env → PO (List γ)) (ρ : Env) (e : α → D) (g : β → D) (p : α × β) : blkB (.tp [i, j]) f ρ (P2 e g p) = f ((ρ.set i (.shr (e p.1))).set j (.shr (g p.2))) := (rfl)
section
variable {β : Type} {tg : Tg} {body : Env → Fw} {enc : β → D}
theorem forW_inv {I : List β → Env → Prop} : ∀ {xs pre : List β} {ρ : Env}, (∀ pre x ρ, x ∈ xs → I pre ρ → ∃ ρ1 ρ2, setT tg (enc x) ρ = some ρ1 ∧ body ρ1 = .nx ρ2 ∧ I (pre ++ [x]) ρ2) → I pre ρ → ∃ ρ', forW tg body (mapE enc xs) ρ = .nx ρ' ∧ I (pre ++ xs) ρ'
  | [], pre, ρ, _, h0 => ⟨ρ, rfl, by simpa using h0⟩
  | x :: r, pre, ρ, h, h0 => by
    obtain ⟨ρ1, ρ2, e1, e2, h1⟩ := h pre x ρ List.mem_cons_self h0
    obtain ⟨ρ', e3, h2⟩ := forW_inv (xs := r) (fun pre y ρ hy => h pre y ρ (List.mem_cons_of_mem _ hy)) h1
    refine ⟨ρ', ?_, by simpa using h2⟩
    rw [show mapE enc (x :: r) = enc x :: mapE enc r from rfl, forW, e1]
    simp only [e2, e3]
end
section
variable {β : Type} {tg : Tg} {body : Env → Fw} {enc : β → D} {xs : List β} {ρ : Env} {K : Env → Fw}
theorem seq_for (Q : Fw → Prop) (I : List β → Env → Prop) (h0 : I [] ρ) (h : ∀ pre x post ρ, xs = pre ++ x :: post → I pre ρ → ∃ ρ1 ρ2, setT tg (enc x) ρ = some ρ1 ∧ body ρ1 = .nx ρ2 ∧ I (pre ++ [x]) ρ2) (k : ∀ ρ', I xs ρ' → Q (K ρ')) : Q (seqF (forW tg body (mapE enc xs) ρ) K) := by
  have : ∀ (ys pre : List β) (ρ : Env), xs = pre ++ ys → I pre ρ → Q (seqF (forW tg body (mapE enc ys) ρ) K) := fun ys => by
    induction ys with
    | nil =>
      intro pre ρ e h0
      exact k ρ (by rw [e]; simpa using h0)
    | cons x r ih =>
      intro pre ρ e h0
      obtain ⟨ρ1, ρ2, e1, e2, h1⟩ := h pre x r ρ e h0
      rw [show mapE enc (x :: r) = enc x :: mapE enc r from rfl, forW, e1]
      simp only [e2]
      exact ih (pre ++ [x]) ρ2 (by rw [e]; simp) h1
  exact this xs [] ρ rfl h0
theorem seq_forR (Q : Fw → Prop) (I : List β → Env → Prop) (h0 : I [] ρ) (h : ∀ pre x post ρ, xs = pre ++ x :: post → I pre ρ → ∃ ρ1, setT tg (enc x) ρ = some ρ1 ∧ ((∃ ρ2, body ρ1 = .nx ρ2 ∧ I (pre ++ [x]) ρ2) ∨ ∃ r ρ2, body ρ1 = .rt r ρ2 ∧ Q (.rt r ρ2))) (k : ∀ ρ', I xs ρ' → Q (K ρ')) : Q (seqF (forW tg body (mapE enc xs) ρ) K) := by
  have : ∀ (ys pre : List β) (ρ : Env), xs = pre ++ ys → I pre ρ → Q (seqF (forW tg body (mapE enc ys) ρ) K) := fun ys => by
    induction ys with
    | nil =>
      intro pre ρ e h0
      exact k ρ (by rw [e]; simpa using h0)
    | cons x r ih =>
      intro pre ρ e h0
      obtain ⟨ρ1, e1, h1⟩ := h pre x r ρ e h0
      rw [show mapE enc (x :: r) = enc x :: mapE enc r from rfl, forW, e1]
      rcases h1 with ⟨ρ2, e2, h2⟩ | ⟨v, ρ2, e2, h2⟩
      · simp only [e2]
        exact ih (pre ++ [x]) ρ2 (by rw [e]; simp) h2
      · simp only [e2]
        exact h2
  exact this xs [] ρ rfl h0
end
end Mi
end
section
namespace Mi
open PySem PySem.W
@[simp] theorem ite_ok_bool {c : Prop} [Decidable c] (f a b : Bool) : (if c then PO.ok ((f, PyData.bool a) : Rs) else PO.ok (f, PyData.bool b)) = PO.ok (f, PyData.bool (if c then a else b)) := by split <;> rfl
class Key {α : Type} (e : α → D) : Prop where
  eq : ∀ a b, keyEq (e a) (e b) = true ↔ a = b
  ok : ∀ a, keyOk (e a) = true
  sk : ∀ a b, sameKind (e a) (e b) = true
  nn : ∀ a, e a ≠ .none
instance keyS : Key PyData.str where
  eq a b := by simp [keyEq, flatEq]
  ok _ := rfl
  sk _ _ := rfl
  nn _ := nofun
instance keyI : Key PyData.int where
  eq a b := by simp [keyEq, flatEq]
  ok _ := rfl
  sk _ _ := rfl
  nn _ := nofun
theorem flatEqs_str : ∀ xs ys : List Str, flatEqs (xs.map .str) (ys.map .str) = true ↔ xs = ys
  | [], [] => by simp [flatEqs]
  | [], _ :: _ => by simp [flatEqs]
  | _ :: _, [] => by simp [flatEqs]
  | x :: r, y :: s => by
    show (flatEq (.str x) (.str y) && flatEqs (r.map .str) (s.map .str)) = true ↔ _
    rw [Bool.and_eq_true, flatEqs_str r s]
    simp [flatEq]
instance keyTS : Key (T PyData.str) where
  eq a b := flatEqs_str a b
  ok a := by
    show (a.map PyData.str).all flatK = true
    simp [flatK]
  sk _ _ := rfl
  nn _ := nofun
section
variable {α β : Type} [DecidableEq α] (e : α → D) (f : β → D) [h : Key e]
def Dc (kvs : List (α × β)) : D := .dict (kvs.map fun p => (e p.1, f p.2))
def getA (kvs : List (α × β)) (k : α) : Option β := (kvs.find? fun p => p.1 = k).map (·.2)
def putA (kvs : List (α × β)) (k : α) (v : β) : List (α × β) := if (kvs.any fun p => p.1 = k) = true then kvs.map (fun p => if p.1 = k then (p.1, v) else p) else kvs ++ [(k, v)]
theorem Key.eqb (a b : α) : keyEq (e a) (e b) = decide (a = b) := by rw [Bool.eq_iff_iff, h.eq, decide_eq_true_eq]
theorem fits_Dc (kvs : List (α × β)) (k : α) : fitsK (kvs.map fun p => (e p.1, f p.2)) (e k) = true := by
  unfold fitsK dOk
  rw [Bool.and_eq_true, Bool.and_eq_true, List.all_eq_true, List.all_eq_true]
  refine ⟨⟨h.ok k, fun p hp => ?_⟩, fun p hp => ?_⟩
  · obtain ⟨q, _, rfl⟩ := List.mem_map.mp hp
    exact h.ok _
  · obtain ⟨q, _, rfl⟩ := List.mem_map.mp hp
    exact h.sk _ _
theorem dOk_Dc (kvs : List (α × β)) : dOk (kvs.map fun p => (e p.1, f p.2)) = true := by
  unfold dOk
  rw [List.all_eq_true]
  intro p hp
  obtain ⟨q, _, rfl⟩ := List.mem_map.mp hp
  exact h.ok _
theorem getK_Dc (kvs : List (α × β)) (k : α) : getK (kvs.map fun p => (e p.1, f p.2)) (e k) = (getA kvs k).map f := by
  unfold getK getA
  rw [List.find?_map]
  have : ((fun p : D × D => keyEq p.1 (e k)) ∘ fun p : α × β => (e p.1, f p.2)) = fun p => decide (p.1 = k) := by
    funext p
    exact Key.eqb e p.1 k
  rw [this]
  cases List.find? (fun p : α × β => decide (p.1 = k)) kvs <;> rfl
theorem putD_Dc (kvs : List (α × β)) (k : α) (v : β) : putD (kvs.map fun p => (e p.1, f p.2)) (e k) (f v) = (putA kvs k v).map fun p => (e p.1, f p.2) := by
  unfold putD putA
  have : ((kvs.map fun p => (e p.1, f p.2)).any fun p => keyEq p.1 (e k)) = kvs.any fun p => decide (p.1 = k) := by
    rw [List.any_map]
    congr 1
    funext p
    exact Key.eqb e p.1 k
  rw [this]
  split
  · rw [List.map_map, List.map_map]
    apply List.map_congr_left
    intro p _
    show (if keyEq (e p.1) (e k) = true then _ else _) = _
    rw [Key.eqb]
    by_cases q : p.1 = k <;> simp [q]
  · simp
def mergeA (acc more : List (α × β)) : List (α × β) := more.foldl (fun a p => putA a p.1 p.2) acc
theorem mergeD_Dc (acc more : List (α × β)) : mergeD (acc.map fun p => (e p.1, f p.2)) (more.map fun p => (e p.1, f p.2)) = (mergeA acc more).map fun p => (e p.1, f p.2) := by
  unfold mergeD mergeA
  induction more generalizing acc with
  | nil => rfl
  | cons p r ih =>
    rw [List.map_cons, List.foldl_cons, List.foldl_cons, putD_Dc e f, ih]
theorem scrOf_Dc (kvs : List (α × β)) : scrOf (kvs.map fun p => (e p.1, f p.2)) = none := by
  cases kvs with
  | nil => rfl
  | cons p r =>
    have n1 := h.nn p.1
    show scrOf ((e p.1, f p.2) :: r.map fun p => (e p.1, f p.2)) = none
    generalize e p.1 = x at n1
    cases x <;> first | exact absurd rfl n1 | rfl
@[simp] theorem len_Dc (kvs : List (α × β)) : lenD (Dc e f kvs) = some kvs.length := by
  have h2 := scrOf_Dc e f kvs
  have h3 := dOk_Dc e f kvs
  show (match scrOf (List.map (fun p : α × β => (e p.1, f p.2)) kvs) with
    | some xs => some xs.length
    | none => if dOk (List.map (fun p : α × β => (e p.1, f p.2)) kvs) = true then some (List.map (fun p : α × β => (e p.1, f p.2)) kvs).length else none) = _
  rw [h2, h3]
  simp
@[simp] theorem in_Dc (kvs : List (α × β)) (k : α) : inOp (e k) (Dc e f kvs) = some (kvs.any fun p => decide (p.1 = k)) := by
  have : inOp (e k) (Dc e f kvs) = if fitsK (kvs.map fun p => (e p.1, f p.2)) (e k) = true then some (getK (kvs.map fun p => (e p.1, f p.2)) (e k)).isSome else none := by
    unfold Dc inOp
    cases e k <;> rfl
  rw [this, if_pos (fits_Dc e f kvs k), getK_Dc e f]
  congr 1
  unfold getA
  induction kvs with
  | nil => rfl
  | cons p r ih =>
    rw [List.any_cons, List.find?_cons]
    by_cases q : p.1 = k
    · simp [q]
    · simp only [q, decide_false, Bool.false_or]
      exact ih (by
        have : inOp (e k) (Dc e f r) = if fitsK (r.map fun p => (e p.1, f p.2)) (e k) = true then some (getK (r.map fun p => (e p.1, f p.2)) (e k)).isSome else none := by
          unfold Dc inOp
          cases e k <;> rfl
        exact this)
theorem idx_Dc (kvs : List (α × β)) (k : α) : idxOp (Dc e f kvs) (e k) = (getA kvs k).map f := by
  have : idxOp (Dc e f kvs) (e k) = if fitsK (kvs.map fun p => (e p.1, f p.2)) (e k) = true then getK (kvs.map fun p => (e p.1, f p.2)) (e k) else none := by
    have nn := h.nn
    unfold Dc
    cases kvs with
    | nil => rfl
    | cons p r =>
      have n1 := nn p.1
      show idxOp (.dict ((e p.1, f p.2) :: r.map fun p => (e p.1, f p.2))) (e k) = if fitsK ((e p.1, f p.2) :: r.map fun p => (e p.1, f p.2)) (e k) = true then getK ((e p.1, f p.2) :: r.map fun p => (e p.1, f p.2)) (e k) else none
      generalize e p.1 = x at n1
      cases x <;> first | exact absurd rfl n1 | rfl
  rw [this, if_pos (fits_Dc e f kvs k), getK_Dc e f]
@[simp] theorem get_Dc (kvs : List (α × β)) (k : α) (d : D) : getP (Dc e f kvs) (e k) d = .ok (false, ((getA kvs k).map f).getD d) := by
  show (if fitsK (kvs.map fun p => (e p.1, f p.2)) (e k) = true then PO.ok (false, (getK (kvs.map fun p => (e p.1, f p.2)) (e k)).getD d) else .bad) = _
  rw [if_pos (fits_Dc e f kvs k), getK_Dc e f]
@[simp] theorem isC_Dc (kvs : List (α × β)) : isC (Dc e f kvs) = true := (rfl)
@[simp] theorem mk_Dc (kvs : List (α × β)) : mk true (Dc e f kvs) = .own (Dc e f kvs) := (rfl)
@[simp] theorem listD_Dc (kvs : List (α × β)) : listD (Dc e f kvs) = some (Ls e (kvs.map (·.1))) := by
  show (if dOk (kvs.map fun p => (e p.1, f p.2)) = true then some (PyData.list ((kvs.map fun p => (e p.1, f p.2)).map (·.1))) else none) = _
  rw [if_pos (dOk_Dc e f kvs), List.map_map, Ls, List.map_map]
  rfl
def ded (xs : List α) : List α := xs.foldl (fun a x => if x ∈ a then a else a ++ [x]) []
theorem mergeA_same (v : β) (xs : List α) : ∀ acc : List α, mergeA (acc.map fun x => (x, v)) (xs.map fun x => (x, v)) = (xs.foldl (fun a x => if x ∈ a then a else a ++ [x]) acc).map fun x => (x, v) := by
  induction xs with
  | nil => intro acc; rfl
  | cons x r ih =>
    intro acc
    show mergeA (putA (acc.map fun x => (x, v)) x v) (r.map fun x => (x, v)) = _
    rw [List.foldl_cons, ← ih]
    congr 1
    unfold putA
    by_cases q : x ∈ acc
    · rw [if_pos q, if_pos (by simpa using q), List.map_map]
      apply List.map_congr_left
      intro y _
      show (if y = x then (y, v) else (y, v)) = _
      split <;> rfl
    · rw [if_neg q, if_neg (by simpa using q)]
      simp
theorem ddS_ded (xs : List Str) : ddS xs = ded xs := by
  unfold ddS ded
  congr 1
  funext acc x
  unfold ddStep
  by_cases h : x ∈ acc
  · rw [if_pos h, if_pos (by simpa using h)]
  · rw [if_neg h, if_neg (by simpa using h)]
theorem mem_ded (x : α) (xs : List α) : x ∈ ded xs ↔ x ∈ xs := by
  have : ∀ (xs acc : List α), x ∈ xs.foldl (fun a x => if x ∈ a then a else a ++ [x]) acc ↔ x ∈ acc ∨ x ∈ xs := fun xs => by
    induction xs with
    | nil => intro acc; simp
    | cons y r ih =>
      intro acc
      rw [List.foldl_cons, ih]
      by_cases q : y ∈ acc
      · rw [if_pos q, List.mem_cons]
        constructor
        · rintro (z | z) <;> simp [z]
        · rintro (z | z | z)
          · exact .inl z
          · exact .inl (z ▸ q)
          · exact .inr z
      · rw [if_neg q, List.mem_append, List.mem_cons, List.mem_cons]
        simp [or_assoc]
  have := this xs []
  unfold ded
  simpa using this
theorem nodup_ded (xs : List α) : (ded xs).Nodup := by
  have : ∀ (xs acc : List α), acc.Nodup → (xs.foldl (fun a x => if x ∈ a then a else a ++ [x]) acc).Nodup := fun xs => by
    induction xs with
    | nil => intro acc k; exact k
    | cons y r ih =>
      intro acc k
      rw [List.foldl_cons]
      apply ih
      split
      · exact k
      · rename_i q
        rw [List.nodup_append]
        exact ⟨k, by simp, fun a ha b hb => by simp at hb; intro z; exact q (hb ▸ z ▸ ha)⟩
  exact this xs [] (by simp)
theorem ded_len (xs : List α) : (ded xs).length ≤ xs.length := by
  have : ∀ (xs acc : List α), (xs.foldl (fun a x => if x ∈ a then a else a ++ [x]) acc).length ≤ acc.length + xs.length := fun xs => by
    induction xs with
    | nil => intro acc; simp
    | cons y r ih =>
      intro acc
      rw [List.foldl_cons]
      have := ih (if y ∈ acc then acc else acc ++ [y])
      have l : (if y ∈ acc then acc else acc ++ [y]).length ≤ acc.length + 1 := by split <;> simp
      rw [List.length_cons]
      omega
  unfold ded
  simpa using this xs []
end
section
variable {α : Type} {β : Type} (e : α → D) (f : β → D)
@[simp] theorem map_fst_pair (v : β) (xs : List α) : List.map ((fun x : α × β => x.fst) ∘ fun x => (x, v)) xs = xs := by
  rw [show ((fun x : α × β => x.fst) ∘ fun x => (x, v)) = id from rfl, List.map_id]
@[simp] theorem map_fst_pair2 (v : β) (xs : List α) : List.map (fun x : α × β => x.fst) (List.map (fun x => (x, v)) xs) = xs := by
  rw [List.map_map, map_fst_pair]
theorem pairsOf_map {γ : Type} (a : γ → D) (b : γ → D) : ∀ xs : List γ, pairsOf (xs.map fun x => .tuple [a x, b x]) = some (xs.map fun x => (a x, b x))
  | [] => rfl
  | x :: r => by
    show (pairsOf (r.map fun x => .tuple [a x, b x])).map ((a x, b x) :: ·) = _
    rw [pairsOf_map a b r]
    rfl
end
theorem dictF_same {α β : Type} [DecidableEq α] (e : α → D) (f : β → D) [h : Key e] (hf : ∀ a, flatK (e a) = true) (v : β) (xs : List α) : dictF (xs.map fun x => (e x, f v)) = some (true, Dc e f ((ded xs).map fun x => (x, v))) := by
  unfold dictF
  rw [if_pos (by rw [List.all_map, List.all_eq_true]; exact fun x _ => hf x)]
  congr 2
  have e1 : (xs.map fun x => (e x, f v)) = (xs.map fun x => (x, v)).map fun p => (e p.1, f p.2) := by rw [List.map_map]; rfl
  have := mergeD_Dc e f ([] : List (α × β)) (xs.map fun x => (x, v))
  rw [e1]
  have z : mergeA [] (xs.map fun x => (x, v)) = (ded xs).map fun x => (x, v) := mergeA_same v xs []
  rw [z] at this
  exact congrArg PyData.dict this
@[simp] theorem dictF_strs (v : Bool) (xs : List Str) : dictF (mapE (fun x => (.str x, .bool v)) xs) = some (true, Dc .str .bool ((ded xs).map fun x => (x, v))) := dictF_same _ _ (fun _ => rfl) v xs
theorem dictD_strs (v : Bool) (xs : List Str) : dictD (Ls (fun x => .tuple [.str x, .bool v]) xs) = some (Dc .str .bool ((ded xs).map fun x => (x, v))) := by
  show ((pairsOf (xs.map fun x => .tuple [.str x, .bool v])).bind fun ps => if (ps.all fun p => flatK p.1) = true then some (PyData.dict (mergeD [] ps)) else none) = _
  rw [pairsOf_map]
  have := dictF_strs v xs
  unfold dictF mapE at this
  show (if ((xs.map fun x => (PyData.str x, PyData.bool v)).all fun p => flatK p.1) = true then some (PyData.dict (mergeD [] (xs.map fun x => (PyData.str x, PyData.bool v)))) else none) = _
  split at this
  · rename_i q
    rw [if_pos q]
    have := congrArg (fun o : Option Rs => o.map (·.2)) this
    exact this
  · cases this
end Mi
end
section
namespace Mi
open PySem PySem.W
def outsO (np : Nat) (ow : List Nat) (ρ : Env) : List Slot := (List.range np).map fun j => if ow.contains j = true then (ρ[j]?).getD .emp else .emp
def endO (np : Nat) (ow : List Nat) : Fw → CRes
  | .nx ρ => .ret (false, .none) (outsO np ow ρ)
  | .rt r ρ => .ret r (outsO np ow ρ)
  | .mv i x ρ => .ret (true, x) (outsO np ow (ρ.set i .emp))
  | .exc x _ => .exc x
  | _ => .bad
@[simp] theorem endO_nx (np : Nat) (ow : List Nat) (ρ : Env) : endO np ow (.nx ρ) = .ret (false, .none) (outsO np ow ρ) := (rfl)
@[simp] theorem endO_rt (np : Nat) (ow : List Nat) (r : Rs) (ρ : Env) : endO np ow (.rt r ρ) = .ret r (outsO np ow ρ) := (rfl)
@[simp] theorem endO_mv (np : Nat) (ow : List Nat) (i : Nat) (x : D) (ρ : Env) : endO np ow (.mv i x ρ) = .ret (true, x) (outsO np ow (ρ.set i .emp)) := (rfl)
@[simp] theorem endO_exc (np : Nat) (ow : List Nat) (x : Exn) (ρ : Env) : endO np ow (.exc x ρ) = .exc x := (rfl)
@[simp] theorem endO_ite (np : Nat) (ow : List Nat) {c : Prop} [Decidable c] (a b : Fw) : endO np ow (if c then a else b) = if c then endO np ow a else endO np ow b := by split <;> rfl
theorem callF_io {P : Prg} {f : Str} {np nl : Nat} {ow mu : List Nat} {fu : Nat} {b : List CS} (h : P.lookup f = some ⟨np, nl, ow, mu, fu, b⟩) (n : Nat) (ss : List Slot) (hs : ssOk ⟨np, nl, ow, mu, fu, b⟩ ss = true) :
    callF P (n + 1) f ss = endO np ow (evSs ⟨callF P n, sigOf P, mu, ow, fu⟩ b (ss ++ List.replicate (nl - np) .emp)) := by
  rw [callF, h]
  show (if ssOk ⟨np, nl, ow, mu, fu, b⟩ ss = true then _ else _) = _
  rw [if_pos hs]
  show endF _ (evSs ⟨callF P n, sigOf P, mu, ow, fu⟩ b (ss ++ List.replicate (nl - np) .emp)) = _
  cases evSs ⟨callF P n, sigOf P, mu, ow, fu⟩ b (ss ++ List.replicate (nl - np) .emp) <;> rfl
def isOwnS : Option Slot → Bool
  | some (.own _) => true
  | _ => false
@[simp] theorem isOwnS_own (d : D) : isOwnS (some (.own d)) = true := (rfl)
def subV (i : Nat) (v k : D) (s : Option Slot) (ρ : Env) : Fw := match s with
  | some (.own d) => match setOp d k v with
    | some d' => .nx (ρ.set i (.own d'))
    | none => .bad
  | _ => .bad
def subG (i : Nat) (r x : Rs) (ρ : Env) : Fw := subV i r.2 x.2 ρ[i]? ρ
@[simp] theorem subG_eq (i : Nat) (r x : Rs) (ρ : Env) : subG i r x ρ = subV i r.2 x.2 ρ[i]? ρ := (rfl)
def setN (i : Nat) (ρ : Env) : Option D → Fw
  | some d' => .nx (ρ.set i (.own d'))
  | none => .bad
@[simp] theorem setN_some (i : Nat) (ρ : Env) (d : D) : setN i ρ (some d) = .nx (ρ.set i (.own d)) := (rfl)
@[simp] theorem setN_ite (i : Nat) (ρ : Env) {c : Prop} [Decidable c] (a b : Option D) : setN i ρ (if c then a else b) = if c then setN i ρ a else setN i ρ b := by split <;> rfl
@[simp] theorem subV_own (i : Nat) (v k d : D) (ρ : Env) : subV i v k (some (.own d)) ρ = setN i ρ (setOp d k v) := by
  unfold subV setN
  rfl
@[simp] theorem subF_eq (i : Nat) (cf : Cf) (k : CE) (r : Rs) (ρ : Env) (h : isOwnS ρ[i]? = true) : subF i cf k r ρ = toF (evE cf k ρ) (subG i r) := by
  unfold subF
  cases q : ρ[i]? with
  | none => rw [q] at h; cases h
  | some s =>
    rw [q] at h
    cases s with
    | own d => rfl
    | _ => cases h
@[simp] theorem setOp_one (x v : D) : setOp (.list [x]) (.int 0) v = some (.list [v]) := (rfl)
@[simp] theorem setOp_Dc {α β : Type} [DecidableEq α] (e : α → D) (f : β → D) [h : Key e] (kvs : List (α × β)) (k : α) (v : β) : setOp (Dc e f kvs) (e k) (f v) = if kvs.length < sizeLine then some (Dc e f (putA kvs k v)) else none := by
  show (if fitsK (kvs.map fun p => (e p.1, f p.2)) (e k) = true ∧ (kvs.map fun p => (e p.1, f p.2)).length < sizeLine then some (PyData.dict (putD (kvs.map fun p => (e p.1, f p.2)) (e k) (f v))) else none) = _
  rw [fits_Dc e f, putD_Dc e f, List.length_map]
  simp [Dc]
@[simp] theorem len_scr (xs : List D) : lenD (scrD xs) = some xs.length := (rfl)
@[simp] theorem idx_scr (xs : List D) (i : Int) : idxOp (scrD xs) (.int i) = L2.atI xs i := (rfl)
theorem log2_lt {n k : Nat} (h : n < 2 ^ k) (hk : 0 < k) : n.log2 < k := by
  by_cases h0 : n = 0
  · subst h0
    simpa using hk
  · exact (Nat.log2_lt h0).mpr h
theorem mulOk_k {i j : Int} (k : Nat) (hk : k ≤ 900000) (hi : i.natAbs < 2 ^ k) (hj : j.natAbs < 2 ^ 250) : mulOk i j = true := by
  unfold mulOk
  have h1 : i.natAbs.log2 ≤ k := by
    by_cases h0 : k = 0
    · subst h0
      have : i.natAbs = 0 := by simpa using hi
      rw [this]
      simp
    · exact Nat.le_of_lt (log2_lt hi (by omega))
  have h2 := log2_lt hj (by omega)
  rw [decide_eq_true_eq]
  omega
theorem mulOk_of {i j : Int} (hi : i.natAbs < 2 ^ 250) (hj : j.natAbs < 2 ^ 250) : mulOk i j = true := mulOk_k 250 (by omega) hi hj
theorem divOk_of {j : Int} (h : 0 < j) (hj : j.natAbs < 2 ^ 250) : divOk j = true := by
  unfold divOk
  have h2 := log2_lt hj (by omega)
  rw [Bool.and_eq_true, decide_eq_true_eq, decide_eq_true_eq]
  exact ⟨h, by omega⟩
@[simp] theorem bin_pow (i j : Int) : binOp .Pow (.int i) (.int j) = if 0 ≤ j ∧ j ≤ 1000000 ∧ i.natAbs < 2 ^ 64 then some (false, .int (i ^ j.toNat)) else none := (rfl)
end Mi
end
section
namespace Mi
open PySem PySem.W
mutual
def hasSt (sg : Str → List Nat) : CE → Bool
  | .cst d => false
  | .var i => false
  | .tup es => hasStL sg es
  | .lst es => hasStL sg es
  | .bin op a b => hasSt sg a || hasSt sg b
  | .neg a => hasSt sg a
  | .cmp op a b => hasSt sg a || hasSt sg b
  | .chn op op' a b c => hasSt sg a || hasSt sg b || hasSt sg c
  | .isin ng a b => hasSt sg a || hasSt sg b
  | .wr ds => false
  | .isn ng a => hasSt sg a
  | .not a => hasSt sg a
  | .and a b => hasSt sg a || hasSt sg b
  | .or a b => hasSt sg a || hasSt sg b
  | .ite c a b => hasSt sg c || hasSt sg a || hasSt sg b
  | .idx a b => hasSt sg a || hasSt sg b
  | .sl0 a => hasSt sg a
  | .sl1 a b => hasSt sg a || hasSt sg b
  | .sl2 a b => hasSt sg a || hasSt sg b
  | .sl3 a b c => hasSt sg a || hasSt sg b || hasSt sg c
  | .rev a => hasSt sg a
  | .b1 f a => hasSt sg a
  | .b2 f a b => hasSt sg a || hasSt sg b
  | .get a b c => hasSt sg a || hasSt sg b || hasSt sg c
  | .isi a ts => hasSt sg a
  | .call f es => !(sg f).isEmpty || hasStL sg es
  | .pop i => false
  | .popAt i a => hasSt sg a
  | .lrng a => hasSt sg a
  | .rng1 a => hasSt sg a
  | .rng2 a b => hasSt sg a || hasSt sg b
  | .rng3 a b c => hasSt sg a || hasSt sg b || hasSt sg c
  | .enm a => hasSt sg a
  | .zp a b => hasSt sg a || hasSt sg b
  | .itm a => hasSt sg a
  | .lc vs elt tg it => hasSt sg elt || hasSt sg it
  | .lcf vs elt tg it c => hasSt sg elt || hasSt sg it || hasSt sg c
  | .lc2 vs vs2 elt tg it tg2 it2 => hasSt sg elt || hasSt sg it || hasSt sg it2
  | .dc vs k v tg it => hasSt sg k || hasSt sg v || hasSt sg it
  | .dc2 vs vs2 k v tg it tg2 it2 => hasSt sg k || hasSt sg v || hasSt sg it || hasSt sg it2
  | .dsp ks vs => hasStL sg ks || hasStL sg vs
  | .star  => false
def hasStL (sg : Str → List Nat) : List CE → Bool
  | [] => false
  | e :: es => hasSt sg e || hasStL sg es
end
@[simp] theorem hasStL_nil (sg : Str → List Nat) : hasStL sg [] = false := (rfl)
@[simp] theorem hasStL_cons (sg : Str → List Nat) (e : CE) (es : List CE) : hasStL sg (e :: es) = (hasSt sg e || hasStL sg es) := (rfl)
@[simp] theorem hasSt_cst (sg : Str → List Nat) (d : D) : hasSt sg (.cst d) = (false) := (rfl)
@[simp] theorem hasSt_var (sg : Str → List Nat) (i : Nat) : hasSt sg (.var i) = (false) := (rfl)
@[simp] theorem hasSt_tup (sg : Str → List Nat) (es : List CE) : hasSt sg (.tup es) = (hasStL sg es) := (rfl)
@[simp] theorem hasSt_lst (sg : Str → List Nat) (es : List CE) : hasSt sg (.lst es) = (hasStL sg es) := (rfl)
@[simp] theorem hasSt_bin (sg : Str → List Nat) (op : Operator) (a : CE) (b : CE) : hasSt sg (.bin op a b) = (hasSt sg a || hasSt sg b) := (rfl)
@[simp] theorem hasSt_neg (sg : Str → List Nat) (a : CE) : hasSt sg (.neg a) = (hasSt sg a) := (rfl)
@[simp] theorem hasSt_cmp (sg : Str → List Nat) (op : CmpOp) (a : CE) (b : CE) : hasSt sg (.cmp op a b) = (hasSt sg a || hasSt sg b) := (rfl)
@[simp] theorem hasSt_chn (sg : Str → List Nat) (op : CmpOp) (op' : CmpOp) (a : CE) (b : CE) (c : CE) : hasSt sg (.chn op op' a b c) = (hasSt sg a || hasSt sg b || hasSt sg c) := (rfl)
@[simp] theorem hasSt_isin (sg : Str → List Nat) (ng : Bool) (a : CE) (b : CE) : hasSt sg (.isin ng a b) = (hasSt sg a || hasSt sg b) := (rfl)
@[simp] theorem hasSt_wr (sg : Str → List Nat) (ds : List D) : hasSt sg (.wr ds) = (false) := (rfl)
@[simp] theorem hasSt_isn (sg : Str → List Nat) (ng : Bool) (a : CE) : hasSt sg (.isn ng a) = (hasSt sg a) := (rfl)
@[simp] theorem hasSt_not (sg : Str → List Nat) (a : CE) : hasSt sg (.not a) = (hasSt sg a) := (rfl)
@[simp] theorem hasSt_and (sg : Str → List Nat) (a : CE) (b : CE) : hasSt sg (.and a b) = (hasSt sg a || hasSt sg b) := (rfl)
@[simp] theorem hasSt_or (sg : Str → List Nat) (a : CE) (b : CE) : hasSt sg (.or a b) = (hasSt sg a || hasSt sg b) := (rfl)
@[simp] theorem hasSt_ite (sg : Str → List Nat) (c : CE) (a : CE) (b : CE) : hasSt sg (.ite c a b) = (hasSt sg c || hasSt sg a || hasSt sg b) := (rfl)
@[simp] theorem hasSt_idx (sg : Str → List Nat) (a : CE) (b : CE) : hasSt sg (.idx a b) = (hasSt sg a || hasSt sg b) := (rfl)
@[simp] theorem hasSt_sl0 (sg : Str → List Nat) (a : CE) : hasSt sg (.sl0 a) = (hasSt sg a) := (rfl)
@[simp] theorem hasSt_sl1 (sg : Str → List Nat) (a : CE) (b : CE) : hasSt sg (.sl1 a b) = (hasSt sg a || hasSt sg b) := (rfl)
@[simp] theorem hasSt_sl2 (sg : Str → List Nat) (a : CE) (b : CE) : hasSt sg (.sl2 a b) = (hasSt sg a || hasSt sg b) := (rfl)
@[simp] theorem hasSt_sl3 (sg : Str → List Nat) (a : CE) (b : CE) (c : CE) : hasSt sg (.sl3 a b c) = (hasSt sg a || hasSt sg b || hasSt sg c) := (rfl)
@[simp] theorem hasSt_rev (sg : Str → List Nat) (a : CE) : hasSt sg (.rev a) = (hasSt sg a) := (rfl)
@[simp] theorem hasSt_b1 (sg : Str → List Nat) (f : B1) (a : CE) : hasSt sg (.b1 f a) = (hasSt sg a) := (rfl)
@[simp] theorem hasSt_b2 (sg : Str → List Nat) (f : B2) (a : CE) (b : CE) : hasSt sg (.b2 f a b) = (hasSt sg a || hasSt sg b) := (rfl)
@[simp] theorem hasSt_get (sg : Str → List Nat) (a : CE) (b : CE) (c : CE) : hasSt sg (.get a b c) = (hasSt sg a || hasSt sg b || hasSt sg c) := (rfl)
@[simp] theorem hasSt_isi (sg : Str → List Nat) (a : CE) (ts : Ty) : hasSt sg (.isi a ts) = (hasSt sg a) := (rfl)
@[simp] theorem hasSt_call (sg : Str → List Nat) (f : Str) (es : List CE) : hasSt sg (.call f es) = (!(sg f).isEmpty || hasStL sg es) := (rfl)
@[simp] theorem hasSt_pop (sg : Str → List Nat) (i : Nat) : hasSt sg (.pop i) = (false) := (rfl)
@[simp] theorem hasSt_popAt (sg : Str → List Nat) (i : Nat) (a : CE) : hasSt sg (.popAt i a) = (hasSt sg a) := (rfl)
@[simp] theorem hasSt_lrng (sg : Str → List Nat) (a : CE) : hasSt sg (.lrng a) = (hasSt sg a) := (rfl)
@[simp] theorem hasSt_rng1 (sg : Str → List Nat) (a : CE) : hasSt sg (.rng1 a) = (hasSt sg a) := (rfl)
@[simp] theorem hasSt_rng2 (sg : Str → List Nat) (a : CE) (b : CE) : hasSt sg (.rng2 a b) = (hasSt sg a || hasSt sg b) := (rfl)
@[simp] theorem hasSt_rng3 (sg : Str → List Nat) (a : CE) (b : CE) (c : CE) : hasSt sg (.rng3 a b c) = (hasSt sg a || hasSt sg b || hasSt sg c) := (rfl)
@[simp] theorem hasSt_enm (sg : Str → List Nat) (a : CE) : hasSt sg (.enm a) = (hasSt sg a) := (rfl)
@[simp] theorem hasSt_zp (sg : Str → List Nat) (a : CE) (b : CE) : hasSt sg (.zp a b) = (hasSt sg a || hasSt sg b) := (rfl)
@[simp] theorem hasSt_itm (sg : Str → List Nat) (a : CE) : hasSt sg (.itm a) = (hasSt sg a) := (rfl)
@[simp] theorem hasSt_lc (sg : Str → List Nat) (vs : List Nat) (elt : CE) (tg : Tg) (it : CE) : hasSt sg (.lc vs elt tg it) = (hasSt sg elt || hasSt sg it) := (rfl)
@[simp] theorem hasSt_lcf (sg : Str → List Nat) (vs : List Nat) (elt : CE) (tg : Tg) (it : CE) (c : CE) : hasSt sg (.lcf vs elt tg it c) = (hasSt sg elt || hasSt sg it || hasSt sg c) := (rfl)
@[simp] theorem hasSt_lc2 (sg : Str → List Nat) (vs : List Nat) (vs2 : List Nat) (elt : CE) (tg : Tg) (it : CE) (tg2 : Tg) (it2 : CE) : hasSt sg (.lc2 vs vs2 elt tg it tg2 it2) = (hasSt sg elt || hasSt sg it || hasSt sg it2) := (rfl)
@[simp] theorem hasSt_dc (sg : Str → List Nat) (vs : List Nat) (k : CE) (v : CE) (tg : Tg) (it : CE) : hasSt sg (.dc vs k v tg it) = (hasSt sg k || hasSt sg v || hasSt sg it) := (rfl)
@[simp] theorem hasSt_dc2 (sg : Str → List Nat) (vs : List Nat) (vs2 : List Nat) (k : CE) (v : CE) (tg : Tg) (it : CE) (tg2 : Tg) (it2 : CE) : hasSt sg (.dc2 vs vs2 k v tg it tg2 it2) = (hasSt sg k || hasSt sg v || hasSt sg it || hasSt sg it2) := (rfl)
@[simp] theorem hasSt_dsp (sg : Str → List Nat) (ks : List CE) (vs : List CE) : hasSt sg (.dsp ks vs) = (hasStL sg ks || hasStL sg vs) := (rfl)
@[simp] theorem hasSt_star (sg : Str → List Nat)  : hasSt sg (.star ) = (false) := (rfl)
def opV (i : Nat) (s : Option Slot) (ρ : Env) : Out Opd := match s with
  | some (.own _) => .ok (.at i) ρ
  | some (.shr d) => .ok (.val d) ρ
  | _ => .bad
@[simp] theorem opV_own (i : Nat) (d : D) (ρ : Env) : opV i (some (.own d)) ρ = .ok (.at i) ρ := (rfl)
@[simp] theorem opV_shr (i : Nat) (d : D) (ρ : Env) : opV i (some (.shr d)) ρ = .ok (.val d) ρ := (rfl)
@[simp] theorem opd_var (i : Nat) (ev : Env → Out Rs) (ρ : Env) : opd (.var i) ev ρ = opV i ρ[i]? ρ := (rfl)
@[simp] theorem opd_wr (ds : List D) (ev : Env → Out Rs) (ρ : Env) : opd (.wr ds) ev ρ = .ok (.wr ds) ρ := (rfl)
def valO (r : Rs) (ρ : Env) : Out Opd := .ok (.val r.2) ρ
@[simp] theorem valO_eq (r : Rs) (ρ : Env) : valO r ρ = .ok (.val r.2) ρ := (rfl)
@[simp] theorem opd_cst (d : D) (ev : Env → Out Rs) (ρ : Env) : opd (.cst d) ev ρ = (ev ρ).bind valO := (rfl)
@[simp] theorem opd_tup (es : List CE) (ev : Env → Out Rs) (ρ : Env) : opd (.tup es) ev ρ = (ev ρ).bind valO := (rfl)
@[simp] theorem opd_lst (es : List CE) (ev : Env → Out Rs) (ρ : Env) : opd (.lst es) ev ρ = (ev ρ).bind valO := (rfl)
@[simp] theorem opd_bin (op : Operator) (a : CE) (b : CE) (ev : Env → Out Rs) (ρ : Env) : opd (.bin op a b) ev ρ = (ev ρ).bind valO := (rfl)
@[simp] theorem opd_neg (a : CE) (ev : Env → Out Rs) (ρ : Env) : opd (.neg a) ev ρ = (ev ρ).bind valO := (rfl)
@[simp] theorem opd_cmp (op : CmpOp) (a : CE) (b : CE) (ev : Env → Out Rs) (ρ : Env) : opd (.cmp op a b) ev ρ = (ev ρ).bind valO := (rfl)
@[simp] theorem opd_chn (op : CmpOp) (op' : CmpOp) (a : CE) (b : CE) (c : CE) (ev : Env → Out Rs) (ρ : Env) : opd (.chn op op' a b c) ev ρ = (ev ρ).bind valO := (rfl)
@[simp] theorem opd_isin (ng : Bool) (a : CE) (b : CE) (ev : Env → Out Rs) (ρ : Env) : opd (.isin ng a b) ev ρ = (ev ρ).bind valO := (rfl)
@[simp] theorem opd_isn (ng : Bool) (a : CE) (ev : Env → Out Rs) (ρ : Env) : opd (.isn ng a) ev ρ = (ev ρ).bind valO := (rfl)
@[simp] theorem opd_not (a : CE) (ev : Env → Out Rs) (ρ : Env) : opd (.not a) ev ρ = (ev ρ).bind valO := (rfl)
@[simp] theorem opd_and (a : CE) (b : CE) (ev : Env → Out Rs) (ρ : Env) : opd (.and a b) ev ρ = (ev ρ).bind valO := (rfl)
@[simp] theorem opd_or (a : CE) (b : CE) (ev : Env → Out Rs) (ρ : Env) : opd (.or a b) ev ρ = (ev ρ).bind valO := (rfl)
@[simp] theorem opd_ite (c : CE) (a : CE) (b : CE) (ev : Env → Out Rs) (ρ : Env) : opd (.ite c a b) ev ρ = (ev ρ).bind valO := (rfl)
@[simp] theorem opd_idx (a : CE) (b : CE) (ev : Env → Out Rs) (ρ : Env) : opd (.idx a b) ev ρ = (ev ρ).bind valO := (rfl)
@[simp] theorem opd_sl0 (a : CE) (ev : Env → Out Rs) (ρ : Env) : opd (.sl0 a) ev ρ = (ev ρ).bind valO := (rfl)
@[simp] theorem opd_sl1 (a : CE) (b : CE) (ev : Env → Out Rs) (ρ : Env) : opd (.sl1 a b) ev ρ = (ev ρ).bind valO := (rfl)
@[simp] theorem opd_sl2 (a : CE) (b : CE) (ev : Env → Out Rs) (ρ : Env) : opd (.sl2 a b) ev ρ = (ev ρ).bind valO := (rfl)
@[simp] theorem opd_sl3 (a : CE) (b : CE) (c : CE) (ev : Env → Out Rs) (ρ : Env) : opd (.sl3 a b c) ev ρ = (ev ρ).bind valO := (rfl)
@[simp] theorem opd_rev (a : CE) (ev : Env → Out Rs) (ρ : Env) : opd (.rev a) ev ρ = (ev ρ).bind valO := (rfl)
@[simp] theorem opd_b1 (f : B1) (a : CE) (ev : Env → Out Rs) (ρ : Env) : opd (.b1 f a) ev ρ = (ev ρ).bind valO := (rfl)
@[simp] theorem opd_b2 (f : B2) (a : CE) (b : CE) (ev : Env → Out Rs) (ρ : Env) : opd (.b2 f a b) ev ρ = (ev ρ).bind valO := (rfl)
@[simp] theorem opd_get (a : CE) (b : CE) (c : CE) (ev : Env → Out Rs) (ρ : Env) : opd (.get a b c) ev ρ = (ev ρ).bind valO := (rfl)
@[simp] theorem opd_isi (a : CE) (ts : Ty) (ev : Env → Out Rs) (ρ : Env) : opd (.isi a ts) ev ρ = (ev ρ).bind valO := (rfl)
@[simp] theorem opd_call (f : Str) (es : List CE) (ev : Env → Out Rs) (ρ : Env) : opd (.call f es) ev ρ = (ev ρ).bind valO := (rfl)
@[simp] theorem opd_pop (i : Nat) (ev : Env → Out Rs) (ρ : Env) : opd (.pop i) ev ρ = (ev ρ).bind valO := (rfl)
@[simp] theorem opd_popAt (i : Nat) (a : CE) (ev : Env → Out Rs) (ρ : Env) : opd (.popAt i a) ev ρ = (ev ρ).bind valO := (rfl)
@[simp] theorem opd_lrng (a : CE) (ev : Env → Out Rs) (ρ : Env) : opd (.lrng a) ev ρ = (ev ρ).bind valO := (rfl)
@[simp] theorem opd_rng1 (a : CE) (ev : Env → Out Rs) (ρ : Env) : opd (.rng1 a) ev ρ = (ev ρ).bind valO := (rfl)
@[simp] theorem opd_rng2 (a : CE) (b : CE) (ev : Env → Out Rs) (ρ : Env) : opd (.rng2 a b) ev ρ = (ev ρ).bind valO := (rfl)
@[simp] theorem opd_rng3 (a : CE) (b : CE) (c : CE) (ev : Env → Out Rs) (ρ : Env) : opd (.rng3 a b c) ev ρ = (ev ρ).bind valO := (rfl)
@[simp] theorem opd_enm (a : CE) (ev : Env → Out Rs) (ρ : Env) : opd (.enm a) ev ρ = (ev ρ).bind valO := (rfl)
@[simp] theorem opd_zp (a : CE) (b : CE) (ev : Env → Out Rs) (ρ : Env) : opd (.zp a b) ev ρ = (ev ρ).bind valO := (rfl)
@[simp] theorem opd_itm (a : CE) (ev : Env → Out Rs) (ρ : Env) : opd (.itm a) ev ρ = (ev ρ).bind valO := (rfl)
@[simp] theorem opd_lc (vs : List Nat) (elt : CE) (tg : Tg) (it : CE) (ev : Env → Out Rs) (ρ : Env) : opd (.lc vs elt tg it) ev ρ = (ev ρ).bind valO := (rfl)
@[simp] theorem opd_lcf (vs : List Nat) (elt : CE) (tg : Tg) (it : CE) (c : CE) (ev : Env → Out Rs) (ρ : Env) : opd (.lcf vs elt tg it c) ev ρ = (ev ρ).bind valO := (rfl)
@[simp] theorem opd_lc2 (vs : List Nat) (vs2 : List Nat) (elt : CE) (tg : Tg) (it : CE) (tg2 : Tg) (it2 : CE) (ev : Env → Out Rs) (ρ : Env) : opd (.lc2 vs vs2 elt tg it tg2 it2) ev ρ = (ev ρ).bind valO := (rfl)
@[simp] theorem opd_dc (vs : List Nat) (k : CE) (v : CE) (tg : Tg) (it : CE) (ev : Env → Out Rs) (ρ : Env) : opd (.dc vs k v tg it) ev ρ = (ev ρ).bind valO := (rfl)
@[simp] theorem opd_dc2 (vs : List Nat) (vs2 : List Nat) (k : CE) (v : CE) (tg : Tg) (it : CE) (tg2 : Tg) (it2 : CE) (ev : Env → Out Rs) (ρ : Env) : opd (.dc2 vs vs2 k v tg it tg2 it2) ev ρ = (ev ρ).bind valO := (rfl)
@[simp] theorem opd_dsp (ks : List CE) (vs : List CE) (ev : Env → Out Rs) (ρ : Env) : opd (.dsp ks vs) ev ρ = (ev ρ).bind valO := (rfl)
@[simp] theorem opd_star  (ev : Env → Out Rs) (ρ : Env) : opd (.star ) ev ρ = (ev ρ).bind valO := (rfl)
theorem opd_nv {c : CE} {ev : Env → Out Rs} {ρ : Env} (h : isVW c = false) : opd c ev ρ = (ev ρ).bind valO := by
  cases c <;> first | rfl | cases h
@[simp] theorem res_val (ρ : Env) (d : D) : res ρ (.val d) = some d := (rfl)
@[simp] theorem res_at (ρ : Env) (i : Nat) : res ρ (.at i) = (ρ[i]?).bind slotD := (rfl)
@[simp] theorem slotD_own (d : D) : slotD (.own d) = some d := (rfl)
@[simp] theorem slotD_shr (d : D) : slotD (.shr d) = some d := (rfl)
@[simp] theorem lift_some {α : Type} (a : α) (ρ : Env) : lift (some a) ρ = .ok a ρ := (rfl)
@[simp] theorem lift_ite {α : Type} {c : Prop} [Decidable c] (a b : Option α) (ρ : Env) : lift (if c then a else b) ρ = if c then lift a ρ else lift b ρ := by split <;> rfl
section
variable (cf : Cf) (ρ : Env)
def binK2 (op : Operator) (x y : Opd) (ρ : Env) : Out Rs := lift ((res ρ x).bind fun x => (res ρ y).bind fun y => binOp op x y) ρ
@[simp] theorem binK2_eq (op : Operator) (x y : Opd) : binK2 op x y ρ = lift ((res ρ x).bind fun x => (res ρ y).bind fun y => binOp op x y) ρ := (rfl)
def binK1 (cf : Cf) (op : Operator) (b : CE) (x : Opd) (ρ : Env) : Out Rs := (opd b (evE cf b) ρ).bind (binK2 op x)
@[simp] theorem binK1_eq (op : Operator) (b : CE) (x : Opd) : binK1 cf op b x ρ = (opd b (evE cf b) ρ).bind (binK2 op x) := (rfl)
@[simp high] theorem evS_bin (op : Operator) (a b : CE) (h : hasSt cf.sig (.bin op a b) = true) : evE cf (.bin op a b) ρ = (opd a (evE cf a) ρ).bind (binK1 cf op b) := by rw [evE]; rfl
def cmpK2 (op : CmpOp) (x y : Opd) (ρ : Env) : Out Rs := lift ((res ρ x).bind fun x => (res ρ y).bind fun y => (cmpOp op x y).map fun b => (false, PyData.bool b)) ρ
@[simp] theorem cmpK2_eq (op : CmpOp) (x y : Opd) : cmpK2 op x y ρ = lift ((res ρ x).bind fun x => (res ρ y).bind fun y => (cmpOp op x y).map fun b => (false, PyData.bool b)) ρ := (rfl)
def cmpK1 (cf : Cf) (op : CmpOp) (b : CE) (x : Opd) (ρ : Env) : Out Rs := (opd b (evE cf b) ρ).bind (cmpK2 op x)
@[simp] theorem cmpK1_eq (op : CmpOp) (b : CE) (x : Opd) : cmpK1 cf op b x ρ = (opd b (evE cf b) ρ).bind (cmpK2 op x) := (rfl)
@[simp high] theorem evS_cmp (op : CmpOp) (a b : CE) (h : hasSt cf.sig (.cmp op a b) = true) : evE cf (.cmp op a b) ρ = (opd a (evE cf a) ρ).bind (cmpK1 cf op b) := by rw [evE]; rfl
def notK (x : Rs) (ρ : Env) : Out Rs := lift ((tru x.2).map fun b => (false, PyData.bool !b)) ρ
@[simp] theorem notK_eq (x : Rs) : notK x ρ = lift ((tru x.2).map fun b => (false, PyData.bool !b)) ρ := (rfl)
@[simp high] theorem evS_not (a : CE) (h : hasSt cf.sig (.not a) = true) : evE cf (.not a) ρ = (evE cf a ρ).bind notK := by rw [evE]; rfl
def truR (x : Rs) (ρ : Env) : Out Rs := lift ((tru x.2).map fun b => (false, PyData.bool b)) ρ
@[simp] theorem truR_eq (x : Rs) : truR x ρ = lift ((tru x.2).map fun b => (false, PyData.bool b)) ρ := (rfl)
def iteO {α : Type} (o : Option Bool) (a b : Out α) : Out α := match o with
  | some t => if t = true then a else b
  | none => .bad
@[simp] theorem iteO_some {α : Type} (t : Bool) (a b : Out α) : iteO (some t) a b = if t = true then a else b := (rfl)
def iteR (cf : Cf) (a b : CE) (x : Rs) (ρ : Env) : Out Rs := iteO (tru x.2) (evE cf a ρ) (evE cf b ρ)
@[simp] theorem iteR_eq (a b : CE) (f t : Bool) : iteR cf a b (f, .bool t) ρ = if t = true then evE cf a ρ else evE cf b ρ := (rfl)
@[simp high] theorem evS_iteE (c a b : CE) (h : hasSt cf.sig (.ite c a b) = true) : evE cf (.ite c a b) ρ = (evE cf c ρ).bind (iteR cf a b) := by
  rw [evE]
  congr 1
  funext x ρ1
  unfold iteR iteO
  cases tru x.2 <;> rfl
def andK (cf : Cf) (b : CE) (x : Rs) (ρ : Env) : Out Rs := iteO (tru x.2) ((evE cf b ρ).bind truR) (.ok (false, .bool false) ρ)
@[simp] theorem andK_eq (b : CE) (f t : Bool) : andK cf b (f, .bool t) ρ = if t = true then (evE cf b ρ).bind truR else .ok (false, .bool false) ρ := (rfl)
@[simp high] theorem evS_and (a b : CE) (h : hasSt cf.sig (.and a b) = true) : evE cf (.and a b) ρ = (evE cf a ρ).bind (andK cf b) := by
  rw [evE]
  congr 1
  funext x ρ1
  unfold andK iteO
  cases tru x.2 with
  | none => rfl
  | some t =>
    show (if t = true then _ else _) = if t = true then _ else _
    congr 1
    congr 1
    funext y ρ2
    unfold truR
    cases tru y.2 <;> rfl
def orK (cf : Cf) (b : CE) (x : Rs) (ρ : Env) : Out Rs := iteO (tru x.2) (.ok (false, .bool true) ρ) ((evE cf b ρ).bind truR)
@[simp] theorem orK_eq (b : CE) (f t : Bool) : orK cf b (f, .bool t) ρ = if t = true then .ok (false, .bool true) ρ else (evE cf b ρ).bind truR := (rfl)
@[simp high] theorem evS_or (a b : CE) (h : hasSt cf.sig (.or a b) = true) : evE cf (.or a b) ρ = (evE cf a ρ).bind (orK cf b) := by
  rw [evE]
  congr 1
  funext x ρ1
  unfold orK iteO
  cases tru x.2 with
  | none => rfl
  | some t =>
    show (if t = true then _ else _) = if t = true then _ else _
    congr 1
    congr 1
    funext y ρ2
    unfold truR
    cases tru y.2 <;> rfl
def idxK2 (x : Opd) (y : Rs) (ρ : Env) : Out Rs := lift ((res ρ x).bind fun x => (idxOp x y.2).map fun d => (false, d)) ρ
@[simp] theorem idxK2_eq (x : Opd) (y : Rs) : idxK2 x y ρ = lift ((res ρ x).bind fun x => (idxOp x y.2).map fun d => (false, d)) ρ := (rfl)
def idxK1 (cf : Cf) (b : CE) (x : Opd) (ρ : Env) : Out Rs := (evE cf b ρ).bind (idxK2 x)
@[simp] theorem idxK1_eq (b : CE) (x : Opd) : idxK1 cf b x ρ = (evE cf b ρ).bind (idxK2 x) := (rfl)
@[simp high] theorem evS_idx (a b : CE) (h : hasSt cf.sig (.idx a b) = true) : evE cf (.idx a b) ρ = (opd a (evE cf a) ρ).bind (idxK1 cf b) := by rw [evE]; rfl
def sl1K2 (x : Opd) (y : Rs) (ρ : Env) : Out Rs := lift ((res ρ x).bind fun x => (asInt y.2).bind fun i => slcOp x (some i) none) ρ
@[simp] theorem sl1K2_eq (x : Opd) (y : Rs) : sl1K2 x y ρ = lift ((res ρ x).bind fun x => (asInt y.2).bind fun i => slcOp x (some i) none) ρ := (rfl)
def sl1K1 (cf : Cf) (b : CE) (x : Opd) (ρ : Env) : Out Rs := (evE cf b ρ).bind (sl1K2 x)
@[simp] theorem sl1K1_eq (b : CE) (x : Opd) : sl1K1 cf b x ρ = (evE cf b ρ).bind (sl1K2 x) := (rfl)
@[simp high] theorem evS_sl1 (a b : CE) (h : hasSt cf.sig (.sl1 a b) = true) : evE cf (.sl1 a b) ρ = (opd a (evE cf a) ρ).bind (sl1K1 cf b) := by rw [evE]; rfl
def sl2K2 (x : Opd) (y : Rs) (ρ : Env) : Out Rs := lift ((res ρ x).bind fun x => (asInt y.2).bind fun i => slcOp x none (some i)) ρ
@[simp] theorem sl2K2_eq (x : Opd) (y : Rs) : sl2K2 x y ρ = lift ((res ρ x).bind fun x => (asInt y.2).bind fun i => slcOp x none (some i)) ρ := (rfl)
def sl2K1 (cf : Cf) (b : CE) (x : Opd) (ρ : Env) : Out Rs := (evE cf b ρ).bind (sl2K2 x)
@[simp] theorem sl2K1_eq (b : CE) (x : Opd) : sl2K1 cf b x ρ = (evE cf b ρ).bind (sl2K2 x) := (rfl)
@[simp high] theorem evS_sl2 (a b : CE) (h : hasSt cf.sig (.sl2 a b) = true) : evE cf (.sl2 a b) ρ = (opd a (evE cf a) ρ).bind (sl2K1 cf b) := by rw [evE]; rfl
def b1K (f : B1) (x : Opd) (ρ : Env) : Out Rs := lift ((res ρ x).bind fun x => b1Op f x) ρ
@[simp] theorem b1K_eq (f : B1) (x : Opd) : b1K f x ρ = lift ((res ρ x).bind fun x => b1Op f x) ρ := (rfl)
@[simp high] theorem evS_b1 (f : B1) (a : CE) (h : hasSt cf.sig (.b1 f a) = true) : evE cf (.b1 f a) ρ = (opd a (evE cf a) ρ).bind (b1K f) := by rw [evE]; rfl
def consK2 (r : Rs) (ds : List D) (ρ : Env) : Out (List D) := .ok (r.2 :: ds) ρ
@[simp] theorem consK2_eq (r : Rs) (ds : List D) : consK2 r ds ρ = .ok (r.2 :: ds) ρ := (rfl)
def consK1 (cf : Cf) (es : List CE) (r : Rs) (ρ : Env) : Out (List D) := (evL cf es ρ).bind (consK2 r)
@[simp] theorem consK1_eq (es : List CE) (r : Rs) : consK1 cf es r ρ = (evL cf es ρ).bind (consK2 r) := (rfl)
@[simp] theorem evL_nil : evL cf [] ρ = .ok [] ρ := by rw [evL]
@[simp] theorem evL_cons (e : CE) (es : List CE) : evL cf (e :: es) ρ = (evE cf e ρ).bind (consK1 cf es) := by rw [evL]; rfl
def tupK (ds : List D) (ρ : Env) : Out Rs := if ds.length ≤ sizeLine then .ok (false, .tuple ds) ρ else .bad
@[simp] theorem tupK_eq (ds : List D) : tupK ds ρ = if ds.length ≤ sizeLine then .ok (false, .tuple ds) ρ else .bad := (rfl)
@[simp high] theorem evS_tup (es : List CE) (h : hasSt cf.sig (.tup es) = true) : evE cf (.tup es) ρ = (evL cf es ρ).bind tupK := by rw [evE]; rfl
def lstKO (ds : List D) (ρ : Env) : Out Rs := if ds.length ≤ sizeLine then .ok (true, .list ds) ρ else .bad
@[simp] theorem lstKO_eq (ds : List D) : lstKO ds ρ = if ds.length ≤ sizeLine then .ok (true, .list ds) ρ else .bad := (rfl)
@[simp high] theorem evS_lst (es : List CE) (h : hasSt cf.sig (.lst es) = true) : evE cf (.lst es) ρ = (evL cf es ρ).bind lstKO := by rw [evE]; rfl
def aV (i : Nat) (s : Option Slot) (ρ : Env) : Out ArgV := match s with
  | some (.own _) => .ok (.ref i) ρ
  | some (.shr d) => .ok (.val (.shr d)) ρ
  | _ => .bad
@[simp] theorem aV_own (i : Nat) (d : D) : aV i (some (.own d)) ρ = .ok (.ref i) ρ := (rfl)
@[simp] theorem aV_shr (i : Nat) (d : D) : aV i (some (.shr d)) ρ = .ok (.val (.shr d)) ρ := (rfl)
def shrK (r : Rs) (ρ : Env) : Out ArgV := .ok (.val (.shr r.2)) ρ
@[simp] theorem shrK_eq (r : Rs) : shrK r ρ = .ok (.val (.shr r.2)) ρ := (rfl)
def mkK (r : Rs) (ρ : Env) : Out ArgV := .ok (.val (mk r.1 r.2)) ρ
@[simp] theorem mkK_eq (r : Rs) : mkK r ρ = .ok (.val (mk r.1 r.2)) ρ := (rfl)
@[simp] theorem arg1_var (i : Nat) (ev : Env → Out Rs) : arg1 true (.var i) ev ρ = aV i ρ[i]? ρ := (rfl)
@[simp] theorem arg1_false (c : CE) (ev : Env → Out Rs) : arg1 false c ev ρ = (ev ρ).bind shrK := (rfl)
@[simp] theorem arg1_true (c : CE) (ev : Env → Out Rs) (h : isVar c = false) : arg1 true c ev ρ = (ev ρ).bind mkK := arg1_of h
def argsK2 (a : ArgV) (as : List ArgV) (ρ : Env) : Out (List ArgV) := .ok (a :: as) ρ
@[simp] theorem argsK2_eq (a : ArgV) (as : List ArgV) : argsK2 a as ρ = .ok (a :: as) ρ := (rfl)
def argsK1 (cf : Cf) (mu : List Nat) (j : Nat) (es : List CE) (a : ArgV) (ρ : Env) : Out (List ArgV) := (evA cf mu j es ρ).bind (argsK2 a)
@[simp] theorem argsK1_eq (mu : List Nat) (j : Nat) (es : List CE) (a : ArgV) : argsK1 cf mu j es a ρ = (evA cf mu j es ρ).bind (argsK2 a) := (rfl)
@[simp] theorem evA_nil (mu : List Nat) (j : Nat) : evA cf mu j [] ρ = .ok [] ρ := by rw [evA]
@[simp] theorem evA_cons (mu : List Nat) (j : Nat) (e : CE) (es : List CE) : evA cf mu j (e :: es) ρ = (arg1 (mu.contains j) e (evE cf e) ρ).bind (argsK1 cf mu (j + 1) es) := by rw [evA]; rfl
@[simp] theorem argSlots_nil : argSlots ρ [] = some [] := (rfl)
@[simp] theorem argSlots_val (s : Slot) (r : List ArgV) : argSlots ρ (.val s :: r) = (argSlots ρ r).map (s :: ·) := (rfl)
def ownO (s : Option Slot) (o : Option (List Slot)) : Option (List Slot) := match s with
  | some (.own d) => o.map (.own d :: ·)
  | _ => none
@[simp] theorem ownO_own (d : D) (o : Option (List Slot)) : ownO (some (.own d)) o = o.map (.own d :: ·) := (rfl)
@[simp] theorem argSlots_ref (i : Nat) (r : List ArgV) : argSlots ρ (.ref i :: r) = ownO ρ[i]? (argSlots ρ r) := (rfl)
@[simp] theorem argRefs_nil : argRefs [] = [] := (rfl)
@[simp] theorem argRefs_val (s : Slot) (r : List ArgV) : argRefs (.val s :: r) = argRefs r := (rfl)
@[simp] theorem argRefs_ref (i : Nat) (r : List ArgV) : argRefs (.ref i :: r) = i :: argRefs r := (rfl)
@[simp] theorem putOuts_nil (ss : List Slot) : putOuts [] ss ρ = ρ := by cases ss <;> rfl
@[simp] theorem putOuts_val (s t : Slot) (r : List ArgV) (ss : List Slot) : putOuts (.val s :: r) (t :: ss) ρ = putOuts r ss ρ := (rfl)
@[simp] theorem putOuts_ref (i : Nat) (t : Slot) (r : List ArgV) (ss : List Slot) : putOuts (.ref i :: r) (t :: ss) ρ = putOuts r ss (ρ.set i t) := (rfl)
def callO (cf : Cf) (f : Str) (as : List ArgV) (ρ : Env) (o : Option (List Slot)) : Out Rs := match o with
  | none => .bad
  | some ss => if (argRefs as).Nodup then
      match cf.call f ss with
      | .ret r outs => .ok r (putOuts as outs ρ)
      | .exc x => .exc x (putOuts as (emps ss) ρ)
      | .bad => .bad
    else .bad
@[simp] theorem callV_eq (f : Str) (as : List ArgV) : callV cf f as ρ = callO cf f as ρ (argSlots ρ as) := (rfl)
def outO (as : List ArgV) (ss : List Slot) (ρ : Env) : CRes → Out Rs
  | .ret r outs => .ok r (putOuts as outs ρ)
  | .exc x => .exc x (putOuts as (emps ss) ρ)
  | .bad => .bad
@[simp] theorem outO_ret (as : List ArgV) (ss : List Slot) (r : Rs) (outs : List Slot) : outO as ss ρ (.ret r outs) = .ok r (putOuts as outs ρ) := (rfl)
@[simp] theorem callO_some (f : Str) (as : List ArgV) (ss : List Slot) (h : (argRefs as).Nodup) : callO cf f as ρ (some ss) = outO as ss ρ (cf.call f ss) := by
  show (if (argRefs as).Nodup then _ else _) = _
  rw [if_pos h]
  unfold outO
  cases cf.call f ss <;> rfl
@[simp high] theorem evS_call (f : Str) (es : List CE) (h : hasSt cf.sig (.call f es) = true) : evE cf (.call f es) ρ = (evA cf (cf.sig f) 0 es ρ).bind (callV cf f) := by rw [evE]
def wrapO (r : Rs) (ρ : Env) : Out (List D) := .ok [r.2] ρ
@[simp] theorem wrapO_eq (r : Rs) : wrapO r ρ = .ok [r.2] ρ := (rfl)
def oneO (cf : Cf) (elt : CE) (ρ : Env) : Out (List D) := (evE cf elt ρ).bind wrapO
@[simp] theorem oneO_eq (elt : CE) : oneO cf elt ρ = (evE cf elt ρ).bind wrapO := (rfl)
def lstO (ys : List D) (ρ : Env) : Out Rs := .ok (true, .list ys) ρ
@[simp] theorem lstO_eq (ys : List D) : lstO ys ρ = .ok (true, .list ys) ρ := (rfl)
def lcO (cf : Cf) (vs : List Nat) (tg : Tg) (elt : CE) (xl : List D × Option Nat) (ρ : Env) : Out Rs := if xl.1.length ≤ sizeLine then (blkV vs tg (oneO cf elt) xl ρ).bind lstO else .bad
@[simp] theorem lcO_eq (vs : List Nat) (tg : Tg) (elt : CE) (xs : List D) (l : Option Nat) : lcO cf vs tg elt (xs, l) ρ = if xs.length ≤ sizeLine then (blkV vs tg (oneO cf elt) (xs, l) ρ).bind lstO else .bad := (rfl)
@[simp high] theorem evS_lc (vs : List Nat) (elt : CE) (tg : Tg) (it : CE) (h : hasSt cf.sig (.lc vs elt tg it) = true) : evE cf (.lc vs elt tg it) ρ = (evI cf it ρ).bind (lcO cf vs tg elt) := by rw [evE]; rfl
def rngO (x : Rs) (ρ : Env) : Out (List D × Option Nat) := lift ((asInt x.2).bind fun i => if rngOk i = true then some (rngD 0 i.toNat, none) else none) ρ
@[simp] theorem rngO_eq (f : Bool) (i : Int) : rngO (f, .int i) ρ = if rngOk i = true then .ok (mapE (fun (j : Nat) => .int (j : Int)) (List.range i.toNat), none) ρ else .bad := by
  have e : rngD 0 i.toNat = mapE (fun (j : Nat) => .int (j : Int)) (List.range i.toNat) := by
    unfold rngD mapE
    simp
  show lift (if rngOk i = true then some (rngD 0 i.toNat, none) else none) ρ = _
  rw [e]
  cases rngOk i <;> rfl
@[simp high] theorem evI_rng1 (a : CE) (h : hasSt cf.sig (.rng1 a) = true) : evI cf (.rng1 a) ρ = (evE cf a ρ).bind rngO := by rw [evI]; rfl
end
theorem back_at {ρ σ : Env} {vs : List Nat} (hl : ρ.length = σ.length) (i : Nat) : (backE ρ σ vs)[i]? = if i ∈ vs then ρ[i]? else σ[i]? := by
  by_cases hi : i < ρ.length
  · have hb : i < (backE ρ σ vs).length := by rw [backE_length]; omega
    have e : (backE ρ σ vs)[i]? = some (backE ρ σ vs)[i] := List.getElem?_eq_getElem hb
    rcases backE_get hl e with ⟨h1, h2⟩ | ⟨h1, h2⟩
    · rw [e, if_pos h1, h2]
    · rw [e, if_neg h1, ← h2]
  · rw [List.getElem?_eq_none (by rw [backE_length]; omega), List.getElem?_eq_none (by omega), List.getElem?_eq_none (by omega)]
    simp
theorem blk_own {σ : Type} {vs : List Nat} {tg : Tg} {f : Env → Out (List D)} {xs : List D} (ρm : σ → Env) (G : D → Prop) (J : σ → Prop) (hv : ∀ i ∈ tgL tg, i ∈ vs)
    (hb : ∀ m m', (ρm m).length = (ρm m').length ∧ ∀ i ∈ vs, (ρm m)[i]? = (ρm m')[i]?)
    (step : ∀ x ∈ xs, ∀ m, J m → ∃ ρ1, setT tg x (wipeE (ρm m) vs) = some ρ1 ∧ ∃ y m' ρ2, f ρ1 = .ok [y] ρ2 ∧ wipeE ρ2 vs = wipeE (ρm m') vs ∧ J m' ∧ G y) (m : σ) (hJ : J m) :
    ∃ ys m', blkV vs tg f (xs, none) (ρm m) = .ok ys (ρm m') ∧ J m' ∧ ys.length = xs.length ∧ ∀ y ∈ ys, G y := by
  have go : ∀ (xs : List D) (m : σ) (ρ' : Env), J m → wipeE ρ' vs = wipeE (ρm m) vs → (∀ x ∈ xs, ∀ m, J m → ∃ ρ1, setT tg x (wipeE (ρm m) vs) = some ρ1 ∧ ∃ y m' ρ2, f ρ1 = .ok [y] ρ2 ∧ wipeE ρ2 vs = wipeE (ρm m') vs ∧ J m' ∧ G y) →
      ∃ ys m' ρ2, turns tg vs f xs ρ' = .ok ys ρ2 ∧ wipeE ρ2 vs = wipeE (ρm m') vs ∧ J m' ∧ ys.length = xs.length ∧ ∀ y ∈ ys, G y := fun xs => by
    induction xs with
    | nil => exact fun m ρ' hJ e _ => ⟨[], m, ρ', rfl, e, hJ, rfl, by simp⟩
    | cons x r ih =>
      intro m ρ' hJ e h
      obtain ⟨ρ1, e1, y, m', ρ2, e2, e3, hJ', hG⟩ := h x List.mem_cons_self m hJ
      obtain ⟨ys, m2, ρ3, e4, e5, hJ2, hl, hG2⟩ := ih m' ρ2 hJ' e3 fun y hy => h y (List.mem_cons_of_mem _ hy)
      refine ⟨y :: ys, m2, ρ3, ?_, e5, hJ2, by simp [hl], fun z hz => (List.mem_cons.mp hz).elim (fun q => q ▸ hG) (hG2 z)⟩
      rw [turns, e, e1]
      simp only [e2, e4]
      rfl
  obtain ⟨ys, m', ρ2, e1, e2, hJ', hl, hG⟩ := go xs m (ρm m) hJ rfl step
  refine ⟨ys, m', ?_, hJ', hl, hG⟩
  unfold blkV
  simp only [lockE_none, e1, lockL, List.append_nil]
  congr 1
  have l2 : (ρm m').length = ρ2.length := by
    have := congrArg List.length e2
    rw [wipeE_length, wipeE_length] at this
    exact this.symm
  apply List.ext_getElem?
  intro i
  rw [back_at ((hb m m').1.trans l2)]
  split
  · rename_i hi
    exact (hb m m').2 i hi
  · rename_i hi
    have := congrArg (fun r : Env => r[i]?) e2
    simp only [wipeE_not hi] at this
    exact this
end Mi
end
section
namespace LB
open PySem Mi
def c__law_joined : List CS := [.ret (.b1 .tuple (.b1 .sorted (.b1 .list (.b1 .dict (.lc [2] (.tup [.var 2, .cst (.bool true)]) (.nm 2) (.bin .Add (.var 0) (.var 1)))))))]
def d__law_joined : Df := ⟨2, 3, [], [], 100, c__law_joined⟩
class H__law_joined (P : Prg) : Prop where
  at__law_joined : P.lookup ("_law_joined" : Str) = some d__law_joined
@[simp] theorem sig__law_joined {P : Prg} [H__law_joined P] : sigOf P ("_law_joined" : Str) = [] := by rw [sigOf, H__law_joined.at__law_joined]; rfl
def c__law_after : List CS := [.asg 2 (.idx (.lcf [3] (.var 3) (.nm 3) (.rng1 (.b1 .len (.var 0))) (.cmp .Eq (.idx (.var 0) (.var 3)) (.var 1))) (.neg (.cst (.int 1)))), .ret (.call "_law_joined" [.b1 .tuple (.sl1 (.var 0) (.bin .Add (.var 2) (.cst (.int 1)))), .tup []])]
def d__law_after : Df := ⟨2, 4, [], [], 100, c__law_after⟩
class H__law_after (P : Prg) : Prop extends H__law_joined P where
  at__law_after : P.lookup ("_law_after" : Str) = some d__law_after
@[simp] theorem sig__law_after {P : Prg} [H__law_after P] : sigOf P ("_law_after" : Str) = [] := by rw [sigOf, H__law_after.at__law_after]; rfl
def c__law_all : List CS := [.ite (.cmp .Eq (.idx (.var 0) (.cst (.int 0))) (.cst (.str "do"))) [.ret (.lst [.idx (.var 0) (.cst (.int 1))])] [], .asg 1 (.lst []), .for (.nm 2) (.sl1 (.var 0) (.cst (.int 1))) [.asg 1 (.bin .Add (.var 1) (.call "_law_all" [.var 2]))], .ret (.var 1)]
def d__law_all : Df := ⟨1, 3, [], [], 100, c__law_all⟩
class H__law_all (P : Prg) : Prop where
  at__law_all : P.lookup ("_law_all" : Str) = some d__law_all
@[simp] theorem sig__law_all {P : Prg} [H__law_all P] : sigOf P ("_law_all" : Str) = [] := by rw [sigOf, H__law_all.at__law_all]; rfl
def c__law_take : List CS := [.asg 2 (.bin .Mod (.b1 .int (.idx (.var 0) (.cst (.int 0)))) (.var 1)), .sub 0 (.cst (.int 0)) (.bin .FloorDiv (.idx (.var 0) (.cst (.int 0))) (.var 1)), .ret (.var 2)]
def d__law_take : Df := ⟨2, 3, [0], [], 100, c__law_take⟩
class H__law_take (P : Prg) : Prop where
  at__law_take : P.lookup ("_law_take" : Str) = some d__law_take
@[simp] theorem sig__law_take {P : Prg} [H__law_take P] : sigOf P ("_law_take" : Str) = [0] := by rw [sigOf, H__law_take.at__law_take]; rfl
def c__law_body : List CS := [.asg 4 (.call "_law_take" [.var 0, .cst (.int 12)]), .ite (.or (.cmp .Eq (.var 3) (.cst (.int 0))) (.cmp .Lt (.var 4) (.cst (.int 4)))) [.ite (.cmp .Lt (.call "_law_take" [.var 0, .cst (.int 5)]) (.cst (.int 2))) [.ret (.tup [.cst (.str "call"), .idx (.var 2) (.call "_law_take" [.var 0, .b1 .len (.var 2)])])] [], .ret (.ite (.cmp .Eq (.call "_law_take" [.var 0, .cst (.int 6)]) (.cst (.int 5))) (.tup [.cst (.str "skip")]) (.tup [.cst (.str "do"), .idx (.var 1) (.call "_law_take" [.var 0, .b1 .len (.var 1)])]))] [], .ite (.cmp .Eq (.var 4) (.cst (.int 4))) [.ret (.tup [.cst (.str "rep"), .call "_law_body" [.var 0, .var 1, .var 2, .bin .Sub (.var 3) (.cst (.int 1))]])] [], .asg 5 (.lc [6] (.call "_law_body" [.var 0, .var 1, .var 2, .bin .Sub (.var 3) (.cst (.int 1))]) (.nm 6) (.rng1 (.bin .Add (.cst (.int 2)) (.bin .FloorDiv (.call "_law_take" [.var 0, .cst (.int 3)]) (.cst (.int 2)))))), .ret (.bin .Add (.tup [.ite (.cmp .Lt (.var 4) (.cst (.int 9))) (.cst (.str "seq")) (.cst (.str "or"))]) (.b1 .tuple (.var 5)))]
def d__law_body : Df := ⟨4, 7, [0], [], 100, c__law_body⟩
class H__law_body (P : Prg) : Prop extends H__law_take P where
  at__law_body : P.lookup ("_law_body" : Str) = some d__law_body
@[simp] theorem sig__law_body {P : Prg} [H__law_body P] : sigOf P ("_law_body" : Str) = [0] := by rw [sigOf, H__law_body.at__law_body]; rfl
def c__law_book : List CS := [.ret (.b1 .tuple (.lc [4] (.tup [.var 4, .call "_law_body" [.var 0, .var 1, .var 2, .var 3]]) (.nm 4) (.b1 .sorted (.var 2))))]
def d__law_book : Df := ⟨4, 5, [0], [], 100, c__law_book⟩
class H__law_book (P : Prg) : Prop extends H__law_body P where
  at__law_book : P.lookup ("_law_book" : Str) = some d__law_book
@[simp] theorem sig__law_book {P : Prg} [H__law_book P] : sigOf P ("_law_book" : Str) = [0] := by rw [sigOf, H__law_book.at__law_book]; rfl
def c__law_mixed : List CS := [.asg 2 (.bin .Mod (.b1 .int (.bin .Add (.bin .Add (.bin .Mult (.bin .Mod (.b1 .int (.var 0)) (.cst (.int 2147483647))) (.cst (.int 48271))) (.bin .Mult (.var 1) (.cst (.int 69621)))) (.cst (.int 1048583)))) (.cst (.int 2147483629))), .asg 2 (.bin .Mod (.b1 .int (.bin .Mult (.var 2) (.var 2))) (.cst (.int 2147483587))), .ret (.bin .Mod (.b1 .int (.bin .Mult (.var 2) (.bin .Add (.var 2) (.cst (.int 2))))) (.cst (.int 2147483579)))]
def d__law_mixed : Df := ⟨2, 3, [], [], 100, c__law_mixed⟩
class H__law_mixed (P : Prg) : Prop where
  at__law_mixed : P.lookup ("_law_mixed" : Str) = some d__law_mixed
@[simp] theorem sig__law_mixed {P : Prg} [H__law_mixed P] : sigOf P ("_law_mixed" : Str) = [] := by rw [sigOf, H__law_mixed.at__law_mixed]; rfl
def c__law_cell : List CS := [.asg 2 (.cst (.int 0)), .ite (.cmp .Lt (.var 1) (.b1 .len (.var 0))) [.asg 2 (.idx (.var 0) (.var 1))] [], .ite (.cmp .GtE (.var 2) (.bin .Pow (.cst (.int 10)) (.cst (.int 18)))) [.ret (.bin .Mod (.b1 .int (.bin .Sub (.var 2) (.bin .Pow (.cst (.int 10)) (.cst (.int 18))))) (.bin .Mult (.bin .Mult (.bin .Mult (.bin .Pow (.cst (.int 10)) (.cst (.int 60))) (.bin .Pow (.cst (.int 10)) (.cst (.int 60)))) (.bin .Pow (.cst (.int 10)) (.cst (.int 60)))) (.bin .Pow (.cst (.int 10)) (.cst (.int 60)))))] [], .asg 3 (.cst (.int 0)), .for (.nm 4) (.rng1 (.cst (.int 24))) [.asg 3 (.bin .Add (.bin .Mult (.var 3) (.cst (.int 2147483579))) (.call "_law_mixed" [.var 2, .bin .Add (.bin .Add (.bin .Mult (.cst (.int 7)) (.var 1)) (.bin .Mult (.cst (.int 100)) (.var 4))) (.bin .Mult (.var 4) (.var 4))]))], .ret (.var 3)]
def d__law_cell : Df := ⟨2, 5, [], [], 100, c__law_cell⟩
class H__law_cell (P : Prg) : Prop extends H__law_mixed P where
  at__law_cell : P.lookup ("_law_cell" : Str) = some d__law_cell
@[simp] theorem sig__law_cell {P : Prg} [H__law_cell P] : sigOf P ("_law_cell" : Str) = [] := by rw [sigOf, H__law_cell.at__law_cell]; rfl
def c__law_drawn : List CS := [.asg 3 (.call "_law_take" [.var 0, .cst (.int 10)]), .ite (.or (.cmp .Eq (.var 2) (.cst (.int 0))) (.cmp .Lt (.var 3) (.cst (.int 3)))) [.ret (.ite (.cmp .Eq (.var 3) (.cst (.int 2))) (.tup [.cst (.str "skip")]) (.tup [.cst (.str "do"), .idx (.var 1) (.call "_law_take" [.var 0, .b1 .len (.var 1)])]))] [], .ite (.cmp .Lt (.var 3) (.cst (.int 5))) [.ret (.tup [.cst (.str "rep"), .call "_law_drawn" [.var 0, .var 1, .bin .Sub (.var 2) (.cst (.int 1))]])] [], .asg 4 (.ite (.and (.cmp .Gt (.var 2) (.cst (.int 1))) (.cmp .Eq (.call "_law_take" [.var 0, .cst (.int 4)]) (.cst (.int 3)))) (.cst (.int 3)) (.cst (.int 2))), .asg 5 (.lc [6] (.call "_law_drawn" [.var 0, .var 1, .bin .Sub (.var 2) (.cst (.int 1))]) (.nm 6) (.rng1 (.var 4))), .ret (.bin .Add (.tup [.idx (.lst [.cst (.str "seq"), .cst (.str "or")]) (.bin .Mod (.b1 .int (.var 3)) (.cst (.int 2)))]) (.b1 .tuple (.var 5)))]
def d__law_drawn : Df := ⟨3, 7, [0], [], 100, c__law_drawn⟩
class H__law_drawn (P : Prg) : Prop extends H__law_take P where
  at__law_drawn : P.lookup ("_law_drawn" : Str) = some d__law_drawn
@[simp] theorem sig__law_drawn {P : Prg} [H__law_drawn P] : sigOf P ("_law_drawn" : Str) = [0] := by rw [sigOf, H__law_drawn.at__law_drawn]; rfl
def c__law_fits : List CS := [.ite (.cmp .Eq (.var 1) (.tup [])) [.ret (.cst (.bool true))] [], .for (.nm 2) (.var 1) [.asg 3 (.b1 .tuple (.lcf [6] (.var 6) (.nm 6) (.var 1) (.cmp .NotEq (.var 6) (.var 2)))), .asg 4 (.lcf [5] (.var 5) (.nm 5) (.get (.var 0) (.var 2) (.tup [])) (.b1 .all (.lc [7] (.isin false (.var 7) (.var 3)) (.nm 7) (.var 5)))), .ite (.and (.cmp .NotEq (.var 4) (.lst [])) (.call "_law_fits" [.var 0, .var 3])) [.ret (.cst (.bool true))] []], .ret (.cst (.bool false))]
def d__law_fits : Df := ⟨2, 8, [], [], 100, c__law_fits⟩
class H__law_fits (P : Prg) : Prop where
  at__law_fits : P.lookup ("_law_fits" : Str) = some d__law_fits
@[simp] theorem sig__law_fits {P : Prg} [H__law_fits P] : sigOf P ("_law_fits" : Str) = [] := by rw [sigOf, H__law_fits.at__law_fits]; rfl
def c__law_inner : List CS := [.ret (.ite (.cmp .Eq (.idx (.var 0) (.cst (.int 0))) (.cst (.str "do"))) (.lst []) (.b1 .list (.sl1 (.var 0) (.cst (.int 1)))))]
def d__law_inner : Df := ⟨1, 1, [], [], 100, c__law_inner⟩
class H__law_inner (P : Prg) : Prop where
  at__law_inner : P.lookup ("_law_inner" : Str) = some d__law_inner
@[simp] theorem sig__law_inner {P : Prg} [H__law_inner P] : sigOf P ("_law_inner" : Str) = [] := by rw [sigOf, H__law_inner.at__law_inner]; rfl
def c__law_inside : List CS := [.ret (.b1 .all (.lc [2] (.isin false (.var 2) (.var 1)) (.nm 2) (.var 0)))]
def d__law_inside : Df := ⟨2, 3, [], [], 100, c__law_inside⟩
class H__law_inside (P : Prg) : Prop where
  at__law_inside : P.lookup ("_law_inside" : Str) = some d__law_inside
@[simp] theorem sig__law_inside {P : Prg} [H__law_inside P] : sigOf P ("_law_inside" : Str) = [] := by rw [sigOf, H__law_inside.at__law_inside]; rfl
def c__law_labellings : List CS := [.asg 1 (.lst [.tup []]), .for (.nm 2) (.var 0) [.asg 3 (.lst []), .for (.nm 4) (.var 1) [.asg 3 (.bin .Add (.var 3) (.lc [5] (.bin .Add (.var 4) (.tup [.tup [.var 2, .var 5]])) (.nm 5) (.lst [.cst (.str "gen"), .cst (.str "kill"), .cst (.str "pass")])))], .asg 1 (.var 3)], .ret (.var 1)]
def d__law_labellings : Df := ⟨1, 6, [], [], 100, c__law_labellings⟩
class H__law_labellings (P : Prg) : Prop where
  at__law_labellings : P.lookup ("_law_labellings" : Str) = some d__law_labellings
@[simp] theorem sig__law_labellings {P : Prg} [H__law_labellings P] : sigOf P ("_law_labellings" : Str) = [] := by rw [sigOf, H__law_labellings.at__law_labellings]; rfl
def c__law_labels : List CS := [.asg 2 (.lst [.cst (.str "a"), .cst (.str "ab"), .cst (.str "ends"), .cst (.str "gen"), .cst (.str "longname"), .cst (.str "longnamf"), .cst (.str "starts"), .cst (.str "write")]), .asg 3 (.call "_law_take" [.var 0, .cst (.int 8)]), .ret (.sl2 (.bin .Add (.sl1 (.var 2) (.var 3)) (.sl2 (.var 2) (.var 3))) (.bin .Add (.cst (.int 1)) (.call "_law_take" [.var 0, .var 1])))]
def d__law_labels : Df := ⟨2, 4, [0], [], 100, c__law_labels⟩
class H__law_labels (P : Prg) : Prop extends H__law_take P where
  at__law_labels : P.lookup ("_law_labels" : Str) = some d__law_labels
@[simp] theorem sig__law_labels {P : Prg} [H__law_labels P] : sigOf P ("_law_labels" : Str) = [0] := by rw [sigOf, H__law_labels.at__law_labels]; rfl
def c__law_last : List CS := [.ret (.b1 .tuple (.lcf [1, 2] (.var 2) (.tp [1, 2]) (.enm (.var 0)) (.isin true (.var 2) (.sl1 (.var 0) (.bin .Add (.var 1) (.cst (.int 1)))))))]
def d__law_last : Df := ⟨1, 3, [], [], 100, c__law_last⟩
class H__law_last (P : Prg) : Prop where
  at__law_last : P.lookup ("_law_last" : Str) = some d__law_last
@[simp] theorem sig__law_last {P : Prg} [H__law_last P] : sigOf P ("_law_last" : Str) = [] := by rw [sigOf, H__law_last.at__law_last]; rfl
def c__law_last_v2 : List CS := [.ret (.b1 .tuple (.lcf [1] (.idx (.var 0) (.var 1)) (.nm 1) (.rng1 (.b1 .len (.var 0))) (.isin true (.idx (.var 0) (.var 1)) (.sl1 (.var 0) (.bin .Add (.var 1) (.cst (.int 1)))))))]
def d__law_last_v2 : Df := ⟨1, 2, [], [], 100, c__law_last_v2⟩
class H__law_last_v2 (P : Prg) : Prop where
  at__law_last_v2 : P.lookup ("_law_last" : Str) = some d__law_last_v2
@[simp] theorem sig__law_last_v2 {P : Prg} [H__law_last_v2 P] : sigOf P ("_law_last" : Str) = [] := by rw [sigOf, H__law_last_v2.at__law_last_v2]; rfl
def c__law_within : List CS := [.ret (.b1 .all (.lc [2] (.isin false (.var 2) (.var 1)) (.nm 2) (.var 0)))]
def d__law_within : Df := ⟨2, 3, [], [], 100, c__law_within⟩
class H__law_within (P : Prg) : Prop where
  at__law_within : P.lookup ("_law_within" : Str) = some d__law_within
@[simp] theorem sig__law_within {P : Prg} [H__law_within P] : sigOf P ("_law_within" : Str) = [] := by rw [sigOf, H__law_within.at__law_within]; rfl
def c__law_least : List CS := [.asg 1 (.b1 .sorted (.b1 .list (.b1 .dict (.lc [3] (.tup [.b1 .tuple (.b1 .sorted (.b1 .list (.var 3))), .cst (.bool true)]) (.nm 3) (.var 0))))), .asg 2 (.lcf [3] (.var 3) (.nm 3) (.var 1) (.cmp .Eq (.lcf [4] (.var 4) (.nm 4) (.var 1) (.call "_law_within" [.var 4, .var 3])) (.lst [.var 3]))), .ret (.b1 .tuple (.var 2))]
def d__law_least : Df := ⟨1, 5, [], [], 100, c__law_least⟩
class H__law_least (P : Prg) : Prop extends H__law_within P where
  at__law_least : P.lookup ("_law_least" : Str) = some d__law_least
@[simp] theorem sig__law_least {P : Prg} [H__law_least P] : sigOf P ("_law_least" : Str) = [] := by rw [sigOf, H__law_least.at__law_least]; rfl
def c__law_met : List CS := [.asg 2 (.lst [.var 1]), .for (.nm 3) (.rng1 (.cst (.int 9))) [.asg 2 (.bin .Add (.var 2) (.lcf [4, 5] (.var 5) (.tp [4, 5]) (.var 0) (.and (.isin false (.var 4) (.var 2)) (.isin true (.var 5) (.var 2)))))], .ret (.var 2)]
def d__law_met : Df := ⟨2, 6, [], [], 100, c__law_met⟩
class H__law_met (P : Prg) : Prop where
  at__law_met : P.lookup ("_law_met" : Str) = some d__law_met
@[simp] theorem sig__law_met {P : Prg} [H__law_met P] : sigOf P ("_law_met" : Str) = [] := by rw [sigOf, H__law_met.at__law_met]; rfl
def c__law_name : List CS := [.ite (.or (.not (.isi (.var 0) .str)) (.or (.not (.chn .LtE .LtE (.cst (.int 1)) (.b1 .len (.var 0)) (.cst (.int 8)))) (.isin false (.var 0) (.lst [.cst (.str "skip"), .cst (.str "start"), .cst (.str "end")])))) [.ret (.cst (.bool false))] [], .ret (.b1 .all (.lc [1] (.isin false (.var 1) (.cst (.str "abcdefghijklmnopqrstuvwxyz"))) (.nm 1) (.var 0)))]
def d__law_name : Df := ⟨1, 2, [], [], 100, c__law_name⟩
class H__law_name (P : Prg) : Prop where
  at__law_name : P.lookup ("_law_name" : Str) = some d__law_name
@[simp] theorem sig__law_name {P : Prg} [H__law_name P] : sigOf P ("_law_name" : Str) = [] := by rw [sigOf, H__law_name.at__law_name]; rfl
def c__law_names : List CS := [.asg 1 (.ite (.cmp .Eq (.idx (.var 0) (.cst (.int 0))) (.cst (.str "do"))) (.lst [.idx (.var 0) (.cst (.int 1))]) (.lst [])), .for (.nm 2) (.call "_law_inner" [.var 0]) [.asg 1 (.bin .Add (.var 1) (.call "_law_names" [.var 2]))], .ret (.b1 .sorted (.b1 .list (.b1 .dict (.lc [3] (.tup [.var 3, .cst (.bool true)]) (.nm 3) (.var 1)))))]
def d__law_names : Df := ⟨1, 4, [], [], 100, c__law_names⟩
class H__law_names (P : Prg) : Prop extends H__law_inner P where
  at__law_names : P.lookup ("_law_names" : Str) = some d__law_names
@[simp] theorem sig__law_names {P : Prg} [H__law_names P] : sigOf P ("_law_names" : Str) = [] := by rw [sigOf, H__law_names.at__law_names]; rfl
def c__law_on_ways : List CS := [.asg 1 (.call "_law_met" [.idx (.var 0) (.cst (.int 1)), .cst (.str "start")]), .ret (.lcf [2] (.var 2) (.nm 2) (.idx (.var 0) (.cst (.int 0))) (.and (.isin false (.var 2) (.var 1)) (.isin false (.cst (.str "end")) (.call "_law_met" [.idx (.var 0) (.cst (.int 1)), .var 2]))))]
def d__law_on_ways : Df := ⟨1, 3, [], [], 100, c__law_on_ways⟩
class H__law_on_ways (P : Prg) : Prop extends H__law_met P where
  at__law_on_ways : P.lookup ("_law_on_ways" : Str) = some d__law_on_ways
@[simp] theorem sig__law_on_ways {P : Prg} [H__law_on_ways P] : sigOf P ("_law_on_ways" : Str) = [] := by rw [sigOf, H__law_on_ways.at__law_on_ways]; rfl
def c__law_pairs : List CS := [.asg 2 (.lst []), .for (.nm 3) (.var 0) [.for (.nm 4) (.var 1) [.asg 5 (.call "_law_last" [.bin .Add (.var 3) (.var 4)]), .ite (.isin true (.var 5) (.var 2)) [.app 2 (.var 5)] []]], .ret (.var 2)]
def d__law_pairs : Df := ⟨2, 6, [], [2], 100, c__law_pairs⟩
class H__law_pairs (P : Prg) : Prop extends H__law_last P where
  at__law_pairs : P.lookup ("_law_pairs" : Str) = some d__law_pairs
@[simp] theorem sig__law_pairs {P : Prg} [H__law_pairs P] : sigOf P ("_law_pairs" : Str) = [] := by rw [sigOf, H__law_pairs.at__law_pairs]; rfl
def c__law_program : List CS := [.asg 3 (.call "_law_take" [.var 0, .cst (.int 10)]), .ite (.or (.cmp .Eq (.var 2) (.cst (.int 0))) (.cmp .Lt (.var 3) (.cst (.int 2)))) [.ret (.ite (.cmp .Eq (.call "_law_take" [.var 0, .cst (.int 6)]) (.cst (.int 5))) (.tup [.cst (.str "skip")]) (.tup [.cst (.str "do"), .idx (.var 1) (.call "_law_take" [.var 0, .b1 .len (.var 1)])]))] [], .ite (.cmp .Eq (.var 3) (.cst (.int 2))) [.ret (.tup [.cst (.str "rep"), .call "_law_program" [.var 0, .var 1, .bin .Sub (.var 2) (.cst (.int 1))]])] [], .asg 4 (.lc [5] (.call "_law_program" [.var 0, .var 1, .bin .Sub (.var 2) (.cst (.int 1))]) (.nm 5) (.rng1 (.bin .Add (.cst (.int 2)) (.bin .FloorDiv (.call "_law_take" [.var 0, .cst (.int 3)]) (.cst (.int 2)))))), .ret (.bin .Add (.tup [.ite (.cmp .Lt (.var 3) (.cst (.int 7))) (.cst (.str "seq")) (.cst (.str "or"))]) (.b1 .tuple (.var 4)))]
def d__law_program : Df := ⟨3, 6, [0], [], 100, c__law_program⟩
class H__law_program (P : Prg) : Prop extends H__law_take P where
  at__law_program : P.lookup ("_law_program" : Str) = some d__law_program
@[simp] theorem sig__law_program {P : Prg} [H__law_program P] : sigOf P ("_law_program" : Str) = [0] := by rw [sigOf, H__law_program.at__law_program]; rfl
def c__law_set : List CS := [.ite (.or (.not (.isi (.var 0) .tuple)) (.not (.b1 .all (.lc [3] (.call "_law_name" [.var 3]) (.nm 3) (.var 0))))) [.ret (.cst (.bool false))] [], .ret (.b1 .all (.lc [1, 2] (.cmp .Lt (.var 1) (.var 2)) (.tp [1, 2]) (.zp (.var 0) (.sl1 (.var 0) (.cst (.int 1))))))]
def d__law_set : Df := ⟨1, 4, [], [], 100, c__law_set⟩
class H__law_set (P : Prg) : Prop extends H__law_name P where
  at__law_set : P.lookup ("_law_set" : Str) = some d__law_set
@[simp] theorem sig__law_set {P : Prg} [H__law_set P] : sigOf P ("_law_set" : Str) = [] := by rw [sigOf, H__law_set.at__law_set]; rfl
def c__law_simple : List CS := [.ite (.cmp .Eq (.idx (.var 1) (.neg (.cst (.int 1)))) (.cst (.str "end"))) [.ret (.lst [.sl3 (.var 1) (.cst (.int 1)) (.neg (.cst (.int 1)))])] [], .asg 2 (.lst []), .for (.tp [3, 4]) (.var 0) [.ite (.and (.cmp .Eq (.var 3) (.idx (.var 1) (.neg (.cst (.int 1))))) (.isin true (.var 4) (.var 1))) [.asg 2 (.bin .Add (.var 2) (.call "_law_simple" [.var 0, .bin .Add (.var 1) (.tup [.var 4])]))] []], .ret (.var 2)]
def d__law_simple : Df := ⟨2, 5, [], [], 100, c__law_simple⟩
class H__law_simple (P : Prg) : Prop where
  at__law_simple : P.lookup ("_law_simple" : Str) = some d__law_simple
@[simp] theorem sig__law_simple {P : Prg} [H__law_simple P] : sigOf P ("_law_simple" : Str) = [] := by rw [sigOf, H__law_simple.at__law_simple]; rfl
def c__law_size : List CS := [.ite (.cmp .Eq (.idx (.var 0) (.cst (.int 0))) (.cst (.str "do"))) [.ret (.cst (.int 1))] [], .ret (.bin .Add (.cst (.int 1)) (.b1 .sum (.lc [1] (.call "_law_size" [.var 1]) (.nm 1) (.sl1 (.var 0) (.cst (.int 1))))))]
def d__law_size : Df := ⟨1, 2, [], [], 100, c__law_size⟩
class H__law_size (P : Prg) : Prop where
  at__law_size : P.lookup ("_law_size" : Str) = some d__law_size
@[simp] theorem sig__law_size {P : Prg} [H__law_size P] : sigOf P ("_law_size" : Str) = [] := by rw [sigOf, H__law_size.at__law_size]; rfl
def c__law_straight : List CS := [.asg 3 (.bin .Add (.bin .Add (.tup [.var 2]) (.var 1)) (.tup [.cst (.str "end")])), .for (.nm 4) (.rng1 (.b1 .len (.var 3))) [.ite (.b1 .any (.lc [5] (.isin false (.tup [.idx (.var 3) (.var 4), .var 5]) (.var 0)) (.nm 5) (.sl1 (.var 3) (.bin .Add (.var 4) (.cst (.int 2)))))) [.ret (.cst (.bool false))] []], .ret (.cst (.bool true))]
def d__law_straight : Df := ⟨3, 6, [], [], 100, c__law_straight⟩
class H__law_straight (P : Prg) : Prop where
  at__law_straight : P.lookup ("_law_straight" : Str) = some d__law_straight
@[simp] theorem sig__law_straight {P : Prg} [H__law_straight P] : sigOf P ("_law_straight" : Str) = [] := by rw [sigOf, H__law_straight.at__law_straight]; rfl
def c__law_subsets : List CS := [.asg 1 (.lst [.tup []]), .for (.nm 2) (.var 0) [.asg 1 (.bin .Add (.var 1) (.lc [3] (.bin .Add (.var 3) (.tup [.var 2])) (.nm 3) (.var 1)))], .ret (.b1 .sorted (.var 1))]
def d__law_subsets : Df := ⟨1, 4, [], [], 100, c__law_subsets⟩
class H__law_subsets (P : Prg) : Prop where
  at__law_subsets : P.lookup ("_law_subsets" : Str) = some d__law_subsets
@[simp] theorem sig__law_subsets {P : Prg} [H__law_subsets P] : sigOf P ("_law_subsets" : Str) = [] := by rw [sigOf, H__law_subsets.at__law_subsets]; rfl
def c__law_twin : List CS := [.asgT [4, 5] (.tup [.call "_law_take" [.var 0, .cst (.int 10)], .idx (.var 1) (.cst (.int 0))]), .ite (.cmp .Eq (.var 4) (.cst (.int 0))) [.ret (.tup [.cst (.str "seq"), .var 1, .tup [.cst (.str "skip")]])] [], .ite (.cmp .Eq (.var 4) (.cst (.int 1))) [.ret (.tup [.cst (.str "rep"), .var 1])] [], .ite (.isin false (.var 5) (.tup [.cst (.str "do"), .cst (.str "skip")])) [.ret (.ite (.cmp .Lt (.var 4) (.cst (.int 6))) (.tup [.cst (.str "or"), .var 1, .var 1]) (.tup [.cst (.str "do"), .idx (.var 2) (.call "_law_take" [.var 0, .b1 .len (.var 2)])]))] [], .ite (.and (.cmp .Eq (.var 5) (.cst (.str "rep"))) (.cmp .Lt (.var 4) (.cst (.int 5)))) [.ret (.tup [.cst (.str "or"), .tup [.cst (.str "skip")], .idx (.var 1) (.cst (.int 1))])] [], .ite (.and (.cmp .Eq (.var 5) (.cst (.str "or"))) (.cmp .Lt (.var 4) (.cst (.int 4)))) [.ret (.bin .Add (.tup [.var 5]) (.rev (.var 1)))] [], .ite (.and (.cmp .Eq (.var 5) (.cst (.str "or"))) (.cmp .Eq (.var 4) (.cst (.int 4)))) [.ret (.bin .Add (.bin .Add (.tup [.var 5]) (.sl1 (.var 1) (.cst (.int 1)))) (.tup [.tup [.cst (.str "seq"), .idx (.var 1) (.cst (.int 1)), .idx (.var 1) (.cst (.int 2))]]))] [], .ite (.and (.cmp .Eq (.var 5) (.cst (.str "seq"))) (.cmp .Eq (.var 4) (.cst (.int 3)))) [.ret (.bin .Add (.tup [.var 5, .idx (.var 1) (.neg (.cst (.int 1)))]) (.sl1 (.var 1) (.cst (.int 1))))] [], .ite (.and (.cmp .Eq (.var 5) (.cst (.str "seq"))) (.cmp .Eq (.var 4) (.cst (.int 4)))) [.ret (.tup [.cst (.str "or"), .var 1, .tup [.cst (.str "seq"), .idx (.var 1) (.neg (.cst (.int 1))), .idx (.var 1) (.neg (.cst (.int 1)))]])] [], .asg 3 (.bin .Add (.cst (.int 1)) (.call "_law_take" [.var 0, .bin .Sub (.b1 .len (.var 1)) (.cst (.int 1))])), .ret (.bin .Add (.bin .Add (.sl2 (.var 1) (.var 3)) (.tup [.call "_law_twin" [.var 0, .idx (.var 1) (.var 3), .var 2]])) (.sl1 (.var 1) (.bin .Add (.var 3) (.cst (.int 1)))))]
def d__law_twin : Df := ⟨3, 6, [0], [], 100, c__law_twin⟩
class H__law_twin (P : Prg) : Prop extends H__law_take P where
  at__law_twin : P.lookup ("_law_twin" : Str) = some d__law_twin
@[simp] theorem sig__law_twin {P : Prg} [H__law_twin P] : sigOf P ("_law_twin" : Str) = [0] := by rw [sigOf, H__law_twin.at__law_twin]; rfl
def c__law_word : List CS := [.ret (.b1 .tuple (.lc [3] (.idx (.var 1) (.call "_law_take" [.var 0, .b1 .len (.var 1)])) (.nm 3) (.rng1 (.call "_law_take" [.var 0, .var 2]))))]
def d__law_word : Df := ⟨3, 4, [0], [], 100, c__law_word⟩
class H__law_word (P : Prg) : Prop extends H__law_take P where
  at__law_word : P.lookup ("_law_word" : Str) = some d__law_word
@[simp] theorem sig__law_word {P : Prg} [H__law_word P] : sigOf P ("_law_word" : Str) = [0] := by rw [sigOf, H__law_word.at__law_word]; rfl
def c__law_word_v2 : List CS := [.ite (.or (.not (.isi (.var 0) .str)) (.or (.not (.chn .LtE .LtE (.cst (.int 1)) (.b1 .len (.var 0)) (.cst (.int 8)))) (.isin false (.var 0) (.lst [.cst (.str "skip"), .cst (.str "start"), .cst (.str "end")])))) [.ret (.cst (.bool false))] [], .ret (.b1 .all (.lc [1] (.isin false (.var 1) (.cst (.str "abcdefghijklmnopqrstuvwxyz"))) (.nm 1) (.var 0)))]
def d__law_word_v2 : Df := ⟨1, 2, [], [], 100, c__law_word_v2⟩
class H__law_word_v2 (P : Prg) : Prop where
  at__law_word_v2 : P.lookup ("_law_word" : Str) = some d__law_word_v2
@[simp] theorem sig__law_word_v2 {P : Prg} [H__law_word_v2 P] : sigOf P ("_law_word" : Str) = [] := by rw [sigOf, H__law_word_v2.at__law_word_v2]; rfl
def c__law_words : List CS := [.ite (.cmp .Eq (.idx (.var 0) (.cst (.int 0))) (.cst (.str "do"))) [.ret (.lst [.tup [.idx (.var 0) (.cst (.int 1))]])] [], .ite (.cmp .Eq (.idx (.var 0) (.cst (.int 0))) (.cst (.str "skip"))) [.ret (.lst [.tup []])] [], .ite (.cmp .Eq (.idx (.var 0) (.cst (.int 0))) (.cst (.str "or"))) [.asg 1 (.lst []), .for (.nm 4) (.sl1 (.var 0) (.cst (.int 1))) [.asg 1 (.bin .Add (.var 1) (.lcf [5] (.var 5) (.nm 5) (.call "_law_words" [.var 4]) (.isin true (.var 5) (.var 1))))], .ret (.var 1)] [], .asg 1 (.lst [.tup []]), .ite (.cmp .Eq (.idx (.var 0) (.cst (.int 0))) (.cst (.str "seq"))) [.for (.nm 4) (.sl1 (.var 0) (.cst (.int 1))) [.asg 1 (.call "_law_pairs" [.var 1, .call "_law_words" [.var 4]])], .ret (.var 1)] [], .asg 2 (.bin .Add (.lst [.tup []]) (.call "_law_words" [.idx (.var 0) (.cst (.int 1))])), .for (.nm 3) (.rng1 (.cst (.int 7))) [.asg 1 (.call "_law_pairs" [.var 1, .var 2])], .ret (.var 1)]
def d__law_words : Df := ⟨1, 6, [], [], 100, c__law_words⟩
class H__law_words (P : Prg) : Prop extends H__law_pairs P where
  at__law_words : P.lookup ("_law_words" : Str) = some d__law_words
@[simp] theorem sig__law_words {P : Prg} [H__law_words P] : sigOf P ("_law_words" : Str) = [] := by rw [sigOf, H__law_words.at__law_words]; rfl
def c__law_words_v3 : List CS := [.asg 2 (.lst [.cst (.str "a"), .cst (.str "ends"), .cst (.str "skipb"), .cst (.str "do"), .cst (.str "seq"), .cst (.str "or"), .cst (.str "rep"), .cst (.str "gen"), .cst (.str "starts"), .cst (.str "longname")]), .asg 3 (.call "_law_take" [.var 0, .cst (.int 10)]), .ret (.sl2 (.bin .Add (.sl1 (.var 2) (.var 3)) (.sl2 (.var 2) (.var 3))) (.var 1))]
def d__law_words_v3 : Df := ⟨2, 4, [0], [], 100, c__law_words_v3⟩
class H__law_words_v3 (P : Prg) : Prop extends H__law_take P where
  at__law_words_v3 : P.lookup ("_law_words" : Str) = some d__law_words_v3
@[simp] theorem sig__law_words_v3 {P : Prg} [H__law_words_v3 P] : sigOf P ("_law_words" : Str) = [0] := by rw [sigOf, H__law_words_v3.at__law_words_v3]; rfl
def c__wall : List CS := [.whl (.cst (.bool true)) [.pas]]
def d__wall : Df := ⟨1, 1, [], [], 100, c__wall⟩
class H__wall (P : Prg) : Prop where
  at__wall : P.lookup ("_wall" : Str) = some d__wall
@[simp] theorem sig__wall {P : Prg} [H__wall P] : sigOf P ("_wall" : Str) = [] := by rw [sigOf, H__wall.at__wall]; rfl
def c_after : List CS := [.ret (.lcf [2, 3] (.var 3) (.tp [2, 3]) (.var 0) (.cmp .Eq (.var 2) (.var 1)))]
def d_after : Df := ⟨2, 4, [], [], 100, c_after⟩
class H_after (P : Prg) : Prop where
  at_after : P.lookup ("after" : Str) = some d_after
@[simp] theorem sig_after {P : Prg} [H_after P] : sigOf P ("after" : Str) = [] := by rw [sigOf, H_after.at_after]; rfl
def c_behind_last : List CS := [.ite (.isin true (.var 1) (.var 0)) [.ret (.cst (.none))] [], .ret (.sl1 (.var 0) (.bin .Add (.b1 .max (.lcf [2, 3] (.var 2) (.tp [2, 3]) (.enm (.var 0)) (.cmp .Eq (.var 3) (.var 1)))) (.cst (.int 1))))]
def d_behind_last : Df := ⟨2, 4, [], [], 100, c_behind_last⟩
class H_behind_last (P : Prg) : Prop where
  at_behind_last : P.lookup ("behind_last" : Str) = some d_behind_last
@[simp] theorem sig_behind_last {P : Prg} [H_behind_last P] : sigOf P ("behind_last" : Str) = [] := by rw [sigOf, H_behind_last.at_behind_last]; rfl
def c_contains : List CS := [.ret (.b1 .all (.lc [2] (.isin false (.var 2) (.var 0)) (.nm 2) (.var 1)))]
def d_contains : Df := ⟨2, 3, [], [], 100, c_contains⟩
class H_contains (P : Prg) : Prop where
  at_contains : P.lookup ("contains" : Str) = some d_contains
@[simp] theorem sig_contains {P : Prg} [H_contains P] : sigOf P ("contains" : Str) = [] := by rw [sigOf, H_contains.at_contains]; rfl
def c_last_ones : List CS := [.ret (.b1 .tuple (.lcf [1, 2] (.var 2) (.tp [1, 2]) (.enm (.var 0)) (.isin true (.var 2) (.sl1 (.var 0) (.bin .Add (.var 1) (.cst (.int 1)))))))]
def d_last_ones : Df := ⟨1, 3, [], [], 100, c_last_ones⟩
class H_last_ones (P : Prg) : Prop where
  at_last_ones : P.lookup ("last_ones" : Str) = some d_last_ones
@[simp] theorem sig_last_ones {P : Prg} [H_last_ones P] : sigOf P ("last_ones" : Str) = [] := by rw [sigOf, H_last_ones.at_last_ones]; rfl
def c_all_grounds : List CS := [.asg 2 (.lst [.sl2 (.lcf [6] (.var 6) (.nm 6) (.var 0) (.call "contains" [.var 1, .var 6])) (.cst (.int 1))]), .for (.nm 3) (.call "last_ones" [.var 1]) [.asg 4 (.call "behind_last" [.var 1, .var 3]), .app 2 (.sl2 (.lcf [6] (.var 6) (.nm 6) (.var 0) (.and (.isin false (.var 3) (.var 6)) (.call "contains" [.var 4, .call "behind_last" [.var 6, .var 3]]))) (.cst (.int 1)))], .ite (.not (.b1 .all (.lc [5] (.cmp .Gt (.b1 .len (.var 5)) (.cst (.int 0))) (.nm 5) (.var 2)))) [.ret (.cst (.none))] [], .ret (.lc [5] (.idx (.var 5) (.cst (.int 0))) (.nm 5) (.var 2))]
def d_all_grounds : Df := ⟨2, 7, [], [2], 100, c_all_grounds⟩
class H_all_grounds (P : Prg) : Prop extends H_behind_last P, H_contains P, H_last_ones P where
  at_all_grounds : P.lookup ("all_grounds" : Str) = some d_all_grounds
@[simp] theorem sig_all_grounds {P : Prg} [H_all_grounds P] : sigOf P ("all_grounds" : Str) = [] := by rw [sigOf, H_all_grounds.at_all_grounds]; rfl
def c_members : List CS := [.ret (.ite (.cmp .Eq (.idx (.var 0) (.cst (.int 0))) (.cst (.str "do"))) (.tup []) (.sl1 (.var 0) (.cst (.int 1))))]
def d_members : Df := ⟨1, 1, [], [], 100, c_members⟩
class H_members (P : Prg) : Prop where
  at_members : P.lookup ("members" : Str) = some d_members
@[simp] theorem sig_members {P : Prg} [H_members P] : sigOf P ("members" : Str) = [] := by rw [sigOf, H_members.at_members]; rfl
def c_all_names : List CS := [.ite (.cmp .Eq (.idx (.var 0) (.cst (.int 0))) (.cst (.str "do"))) [.ret (.lst [.idx (.var 0) (.cst (.int 1))])] [], .asg 1 (.lst []), .for (.nm 2) (.call "members" [.var 0]) [.asg 1 (.bin .Add (.var 1) (.call "all_names" [.var 2]))], .ret (.var 1)]
def d_all_names : Df := ⟨1, 3, [], [], 100, c_all_names⟩
class H_all_names (P : Prg) : Prop extends H_members P where
  at_all_names : P.lookup ("all_names" : Str) = some d_all_names
@[simp] theorem sig_all_names {P : Prg} [H_all_names P] : sigOf P ("all_names" : Str) = [] := by rw [sigOf, H_all_names.at_all_names]; rfl
def c_all_parts : List CS := [.asg 1 (.lst [.var 0]), .for (.nm 2) (.call "members" [.var 0]) [.asg 1 (.bin .Add (.var 1) (.call "all_parts" [.var 2]))], .ret (.var 1)]
def d_all_parts : Df := ⟨1, 3, [], [], 100, c_all_parts⟩
class H_all_parts (P : Prg) : Prop extends H_members P where
  at_all_parts : P.lookup ("all_parts" : Str) = some d_all_parts
@[simp] theorem sig_all_parts {P : Prg} [H_all_parts P] : sigOf P ("all_parts" : Str) = [] := by rw [sigOf, H_all_parts.at_all_parts]; rfl
def c_compare : List CS := [.ret (.or (.call "contains" [.var 0, .var 1]) (.call "contains" [.var 1, .var 0]))]
def d_compare : Df := ⟨2, 2, [], [], 100, c_compare⟩
class H_compare (P : Prg) : Prop extends H_contains P where
  at_compare : P.lookup ("compare" : Str) = some d_compare
@[simp] theorem sig_compare {P : Prg} [H_compare P] : sigOf P ("compare" : Str) = [] := by rw [sigOf, H_compare.at_compare]; rfl
def c_all_starts : List CS := [.asg 1 (.lst [.tup []]), .for (.nm 2) (.var 0) [.aug .Add 1 (.lcf [3] (.bin .Add (.var 3) (.tup [.var 2])) (.nm 3) (.var 1) (.not (.b1 .any (.lc [4] (.call "compare" [.var 2, .var 4]) (.nm 4) (.var 3)))))], .ret (.sl1 (.var 1) (.cst (.int 1)))]
def d_all_starts : Df := ⟨1, 5, [], [1], 100, c_all_starts⟩
class H_all_starts (P : Prg) : Prop extends H_compare P where
  at_all_starts : P.lookup ("all_starts" : Str) = some d_all_starts
@[simp] theorem sig_all_starts {P : Prg} [H_all_starts P] : sigOf P ("all_starts" : Str) = [] := by rw [sigOf, H_all_starts.at_all_starts]; rfl
def c_union : List CS := [.ret (.b1 .tuple (.b1 .sorted (.dc [2] (.var 2) (.cst (.bool true)) (.nm 2) (.bin .Add (.var 0) (.var 1)))))]
def d_union : Df := ⟨2, 3, [], [], 100, c_union⟩
class H_union (P : Prg) : Prop where
  at_union : P.lookup ("union" : Str) = some d_union
@[simp] theorem sig_union {P : Prg} [H_union P] : sigOf P ("union" : Str) = [] := by rw [sigOf, H_union.at_union]; rfl
def c_all_with : List CS := [.ret (.lc [2] (.call "union" [.var 2, .var 1]) (.nm 2) (.var 0))]
def d_all_with : Df := ⟨2, 3, [], [], 100, c_all_with⟩
class H_all_with (P : Prg) : Prop extends H_union P where
  at_all_with : P.lookup ("all_with" : Str) = some d_all_with
@[simp] theorem sig_all_with {P : Prg} [H_all_with P] : sigOf P ("all_with" : Str) = [] := by rw [sigOf, H_all_with.at_all_with]; rfl
def c_is_name : List CS := [.ite (.or (.not (.isi (.var 0) .str)) (.or (.not (.chn .LtE .LtE (.cst (.int 1)) (.b1 .len (.var 0)) (.cst (.int 8)))) (.isin false (.var 0) (.wr [.str "skip", .str "start", .str "end"])))) [.ret (.cst (.bool false))] [], .ret (.b1 .all (.lc [1] (.isin false (.var 1) (.cst (.str "abcdefghijklmnopqrstuvwxyz"))) (.nm 1) (.var 0)))]
def d_is_name : Df := ⟨1, 2, [], [], 100, c_is_name⟩
class H_is_name (P : Prg) : Prop where
  at_is_name : P.lookup ("is_name" : Str) = some d_is_name
@[simp] theorem sig_is_name {P : Prg} [H_is_name P] : sigOf P ("is_name" : Str) = [] := by rw [sigOf, H_is_name.at_is_name]; rfl
def c_is_set : List CS := [.ite (.or (.not (.isi (.var 0) .tuple)) (.not (.b1 .all (.lc [3] (.call "is_name" [.var 3]) (.nm 3) (.var 0))))) [.ret (.cst (.bool false))] [], .ret (.b1 .all (.lc [1, 2] (.cmp .Lt (.var 1) (.var 2)) (.tp [1, 2]) (.zp (.var 0) (.sl1 (.var 0) (.cst (.int 1))))))]
def d_is_set : Df := ⟨1, 4, [], [], 100, c_is_set⟩
class H_is_set (P : Prg) : Prop extends H_is_name P where
  at_is_set : P.lookup ("is_set" : Str) = some d_is_set
@[simp] theorem sig_is_set {P : Prg} [H_is_set P] : sigOf P ("is_set" : Str) = [] := by rw [sigOf, H_is_set.at_is_set]; rfl
def c_least : List CS := [.asg 1 (.b1 .sorted (.dc [2] (.var 2) (.cst (.bool true)) (.nm 2) (.var 0))), .ret (.b1 .tuple (.lcf [3] (.var 3) (.nm 3) (.var 1) (.not (.b1 .any (.lcf [4] (.call "contains" [.var 3, .var 4]) (.nm 4) (.var 1) (.cmp .NotEq (.var 4) (.var 3)))))))]
def d_least : Df := ⟨1, 5, [], [], 100, c_least⟩
class H_least (P : Prg) : Prop extends H_contains P where
  at_least : P.lookup ("least" : Str) = some d_least
@[simp] theorem sig_least {P : Prg} [H_least P] : sigOf P ("least" : Str) = [] := by rw [sigOf, H_least.at_least]; rfl
def c_are_sets : List CS := [.ite (.or (.not (.isi (.var 0) .tuple)) (.not (.chn .LtE .LtE (.cst (.int 1)) (.b1 .len (.var 0)) (.cst (.int 20))))) [.ret (.cst (.bool false))] [], .ite (.not (.b1 .all (.lc [1] (.and (.call "is_set" [.var 1]) (.cmp .LtE (.b1 .len (.var 1)) (.cst (.int 6)))) (.nm 1) (.var 0)))) [.ret (.cst (.bool false))] [], .ret (.cmp .Eq (.call "least" [.var 0]) (.var 0))]
def d_are_sets : Df := ⟨1, 2, [], [], 100, c_are_sets⟩
class H_are_sets (P : Prg) : Prop extends H_is_set P, H_least P where
  at_are_sets : P.lookup ("are_sets" : Str) = some d_are_sets
@[simp] theorem sig_are_sets {P : Prg} [H_are_sets P] : sigOf P ("are_sets" : Str) = [] := by rw [sigOf, H_are_sets.at_are_sets]; rfl
def c_covers : List CS := [.ret (.b1 .all (.lc [2] (.b1 .any (.lc [3] (.call "contains" [.var 2, .var 3]) (.nm 3) (.var 1))) (.nm 2) (.var 0)))]
def d_covers : Df := ⟨2, 4, [], [], 100, c_covers⟩
class H_covers (P : Prg) : Prop extends H_contains P where
  at_covers : P.lookup ("covers" : Str) = some d_covers
@[simp] theorem sig_covers {P : Prg} [H_covers P] : sigOf P ("covers" : Str) = [] := by rw [sigOf, H_covers.at_covers]; rfl
def c_sets_of : List CS := [.ret (.get (.b1 .dict (.idx (.var 0) (.cst (.int 1)))) (.var 1) (.tup []))]
def d_sets_of : Df := ⟨2, 2, [], [], 100, c_sets_of⟩
class H_sets_of (P : Prg) : Prop where
  at_sets_of : P.lookup ("sets_of" : Str) = some d_sets_of
@[simp] theorem sig_sets_of {P : Prg} [H_sets_of P] : sigOf P ("sets_of" : Str) = [] := by rw [sigOf, H_sets_of.at_sets_of]; rfl
def c_can_stand_behind : List CS := [.asg 3 (.lcf [4, 5] (.tup [.var 4, .var 5]) (.tp [4, 5]) (.idx (.var 0) (.cst (.int 1))) (.isin true (.var 4) (.var 2))), .ite (.not (.b1 .all (.lc [4, 5] (.call "covers" [.call "all_with" [.var 5, .var 2], .call "sets_of" [.var 1, .var 4]]) (.tp [4, 5]) (.var 3)))) [.ret (.cst (.bool false))] [], .ret (.call "covers" [.call "all_with" [.idx (.var 0) (.cst (.int 0)), .var 2], .idx (.var 1) (.cst (.int 0))])]
def d_can_stand_behind : Df := ⟨3, 6, [], [], 100, c_can_stand_behind⟩
class H_can_stand_behind (P : Prg) : Prop extends H_all_with P, H_covers P, H_sets_of P where
  at_can_stand_behind : P.lookup ("can_stand_behind" : Str) = some d_can_stand_behind
@[simp] theorem sig_can_stand_behind {P : Prg} [H_can_stand_behind P] : sigOf P ("can_stand_behind" : Str) = [] := by rw [sigOf, H_can_stand_behind.at_can_stand_behind]; rfl
def c_is_entry : List CS := [.ret (.and (.isi (.var 0) .tuple) (.and (.cmp .Eq (.b1 .len (.var 0)) (.cst (.int 2))) (.call "is_name" [.idx (.var 0) (.cst (.int 0))])))]
def d_is_entry : Df := ⟨1, 1, [], [], 100, c_is_entry⟩
class H_is_entry (P : Prg) : Prop extends H_is_name P where
  at_is_entry : P.lookup ("is_entry" : Str) = some d_is_entry
@[simp] theorem sig_is_entry {P : Prg} [H_is_entry P] : sigOf P ("is_entry" : Str) = [] := by rw [sigOf, H_is_entry.at_is_entry]; rfl
def c_names_of_body : List CS := [.ite (.isin false (.idx (.var 0) (.cst (.int 0))) (.tup [.cst (.str "do"), .cst (.str "call")])) [.ret (.ite (.cmp .Eq (.idx (.var 0) (.cst (.int 0))) (.cst (.str "do"))) (.lst [.idx (.var 0) (.cst (.int 1))]) (.lst []))] [], .asg 1 (.lst []), .for (.nm 2) (.call "members" [.var 0]) [.aug .Add 1 (.call "names_of_body" [.var 2])], .ret (.var 1)]
def d_names_of_body : Df := ⟨1, 3, [], [1], 100, c_names_of_body⟩
class H_names_of_body (P : Prg) : Prop extends H_members P where
  at_names_of_body : P.lookup ("names_of_body" : Str) = some d_names_of_body
@[simp] theorem sig_names_of_body {P : Prg} [H_names_of_body P] : sigOf P ("names_of_body" : Str) = [] := by rw [sigOf, H_names_of_body.at_names_of_body]; rfl
def c_has_form : List CS := [.ite (.or (.not (.isi (.var 0) .tuple)) (.or (.cmp .Eq (.b1 .len (.var 0)) (.cst (.int 0))) (.not (.isi (.idx (.var 0) (.cst (.int 0))) .str)))) [.ret (.cst (.bool false))] [], .ite (.isin false (.idx (.var 0) (.cst (.int 0))) (.tup [.cst (.str "seq"), .cst (.str "or")])) [.ret (.cmp .Gt (.b1 .len (.var 0)) (.cst (.int 2)))] [], .ite (.cmp .Eq (.idx (.var 0) (.cst (.int 0))) (.cst (.str "do"))) [.ret (.and (.cmp .Eq (.b1 .len (.var 0)) (.cst (.int 2))) (.call "is_name" [.idx (.var 0) (.cst (.int 1))]))] [], .ret (.or (.and (.cmp .Eq (.idx (.var 0) (.cst (.int 0))) (.cst (.str "skip"))) (.cmp .Eq (.b1 .len (.var 0)) (.cst (.int 1)))) (.and (.cmp .Eq (.idx (.var 0) (.cst (.int 0))) (.cst (.str "rep"))) (.cmp .Eq (.b1 .len (.var 0)) (.cst (.int 2)))))]
def d_has_form : Df := ⟨1, 1, [], [], 100, c_has_form⟩
class H_has_form (P : Prg) : Prop extends H_is_name P where
  at_has_form : P.lookup ("has_form" : Str) = some d_has_form
@[simp] theorem sig_has_form {P : Prg} [H_has_form P] : sigOf P ("has_form" : Str) = [] := by rw [sigOf, H_has_form.at_has_form]; rfl
def c_parts_of_body : List CS := [.ite (.and (.isi (.var 0) .tuple) (.and (.cmp .Eq (.b1 .len (.var 0)) (.cst (.int 2))) (.cmp .Eq (.idx (.var 0) (.cst (.int 0))) (.cst (.str "call"))))) [.ret (.ite (.and (.cmp .LtE (.var 1) (.cst (.int 40))) (.and (.isi (.idx (.var 0) (.cst (.int 1))) .str) (.isin false (.idx (.var 0) (.cst (.int 1))) (.var 2)))) (.cst (.int 1)) (.cst (.none)))] [], .ite (.or (.cmp .Gt (.var 1) (.cst (.int 40))) (.not (.call "has_form" [.var 0]))) [.ret (.cst (.none))] [], .asg 3 (.cst (.int 1)), .for (.nm 4) (.call "members" [.var 0]) [.asg 5 (.call "parts_of_body" [.var 4, .bin .Add (.var 1) (.cst (.int 1)), .var 2]), .ite (.or (.isn false (.var 5)) (.cmp .Gt (.bin .Add (.var 3) (.var 5)) (.cst (.int 60)))) [.ret (.cst (.none))] [], .asg 3 (.bin .Add (.var 3) (.var 5))], .ret (.var 3)]
def d_parts_of_body : Df := ⟨3, 6, [], [], 100, c_parts_of_body⟩
class H_parts_of_body (P : Prg) : Prop extends H_has_form P, H_members P where
  at_parts_of_body : P.lookup ("parts_of_body" : Str) = some d_parts_of_body
@[simp] theorem sig_parts_of_body {P : Prg} [H_parts_of_body P] : sigOf P ("parts_of_body" : Str) = [] := by rw [sigOf, H_parts_of_body.at_parts_of_body]; rfl
def c_is_book : List CS := [.ite (.or (.not (.isi (.var 0) .tuple)) (.not (.chn .LtE .LtE (.cst (.int 1)) (.b1 .len (.var 0)) (.cst (.int 6))))) [.ret (.cst (.bool false))] [], .ite (.not (.b1 .all (.lc [4] (.call "is_entry" [.var 4]) (.nm 4) (.var 0)))) [.ret (.cst (.bool false))] [], .asg 1 (.lc [2, 3] (.var 2) (.tp [2, 3]) (.var 0)), .ite (.not (.b1 .all (.lc [5, 6] (.cmp .Lt (.var 5) (.var 6)) (.tp [5, 6]) (.zp (.var 1) (.sl1 (.var 1) (.cst (.int 1))))))) [.ret (.cst (.bool false))] [], .ite (.b1 .any (.lc [2, 3] (.isn false (.call "parts_of_body" [.var 3, .cst (.int 1), .var 1])) (.tp [2, 3]) (.var 0))) [.ret (.cst (.bool false))] [], .ret (.cmp .LtE (.b1 .len (.dc2 [4, 2] [2] (.var 2) (.cst (.bool true)) (.nm 4) (.var 0) (.nm 2) (.call "names_of_body" [.idx (.var 4) (.cst (.int 1))]))) (.cst (.int 6)))]
def d_is_book : Df := ⟨1, 7, [], [], 100, c_is_book⟩
class H_is_book (P : Prg) : Prop extends H_is_entry P, H_names_of_body P, H_parts_of_body P where
  at_is_book : P.lookup ("is_book" : Str) = some d_is_book
@[simp] theorem sig_is_book {P : Prg} [H_is_book P] : sigOf P ("is_book" : Str) = [] := by rw [sigOf, H_is_book.at_is_book]; rfl
def c_check_book : List CS := [.ite (.not (.call "is_book" [.var 0])) [.rais "" []] [], .ite (.or (.not (.isi (.var 1) .str)) (.isin true (.var 1) (.b1 .dict (.var 0)))) [.rais "" []] []]
def d_check_book : Df := ⟨2, 2, [], [], 100, c_check_book⟩
class H_check_book (P : Prg) : Prop extends H_is_book P where
  at_check_book : P.lookup ("check_book" : Str) = some d_check_book
@[simp] theorem sig_check_book {P : Prg} [H_check_book P] : sigOf P ("check_book" : Str) = [] := by rw [sigOf, H_check_book.at_check_book]; rfl
def c_is_pair : List CS := [.ite (.or (.not (.isi (.var 0) .tuple)) (.or (.cmp .NotEq (.b1 .len (.var 0)) (.cst (.int 2))) (.not (.call "is_name" [.idx (.var 0) (.cst (.int 0))])))) [.ret (.cst (.bool false))] [], .ret (.and (.isi (.idx (.var 0) (.cst (.int 1))) .str) (.isin false (.idx (.var 0) (.cst (.int 1))) (.wr [.str "gen", .str "kill", .str "pass"])))]
def d_is_pair : Df := ⟨1, 1, [], [], 100, c_is_pair⟩
class H_is_pair (P : Prg) : Prop extends H_is_name P where
  at_is_pair : P.lookup ("is_pair" : Str) = some d_is_pair
@[simp] theorem sig_is_pair {P : Prg} [H_is_pair P] : sigOf P ("is_pair" : Str) = [] := by rw [sigOf, H_is_pair.at_is_pair]; rfl
def c_check_labelling : List CS := [.ite (.or (.not (.isi (.var 0) .tuple)) (.cmp .Gt (.b1 .len (.var 0)) (.cst (.int 6)))) [.rais "" []] [], .ite (.not (.b1 .all (.lc [1] (.call "is_pair" [.var 1]) (.nm 1) (.var 0)))) [.rais "" []] [], .ite (.not (.b1 .all (.lc [2, 3] (.cmp .Lt (.idx (.var 2) (.cst (.int 0))) (.idx (.var 3) (.cst (.int 0)))) (.tp [2, 3]) (.zp (.var 0) (.sl1 (.var 0) (.cst (.int 1))))))) [.rais "" []] []]
def d_check_labelling : Df := ⟨1, 4, [], [], 100, c_check_labelling⟩
class H_check_labelling (P : Prg) : Prop extends H_is_pair P where
  at_check_labelling : P.lookup ("check_labelling" : Str) = some d_check_labelling
@[simp] theorem sig_check_labelling {P : Prg} [H_check_labelling P] : sigOf P ("check_labelling" : Str) = [] := by rw [sigOf, H_check_labelling.at_check_labelling]; rfl
def c_check_marked : List CS := [.asg 2 (.lc [3, 4] (.var 3) (.tp [3, 4]) (.var 1)), .for (.nm 3) (.var 0) [.ite (.isin true (.var 3) (.var 2)) [.rais "" []] []]]
def d_check_marked : Df := ⟨2, 5, [], [], 100, c_check_marked⟩
class H_check_marked (P : Prg) : Prop where
  at_check_marked : P.lookup ("check_marked" : Str) = some d_check_marked
@[simp] theorem sig_check_marked {P : Prg} [H_check_marked P] : sigOf P ("check_marked" : Str) = [] := by rw [sigOf, H_check_marked.at_check_marked]; rfl
def c_check_name : List CS := [.ite (.not (.call "is_name" [.var 0])) [.rais "" []] []]
def d_check_name : Df := ⟨1, 1, [], [], 100, c_check_name⟩
class H_check_name (P : Prg) : Prop extends H_is_name P where
  at_check_name : P.lookup ("check_name" : Str) = some d_check_name
@[simp] theorem sig_check_name {P : Prg} [H_check_name P] : sigOf P ("check_name" : Str) = [] := by rw [sigOf, H_check_name.at_check_name]; rfl
def c_check_set : List CS := [.ite (.not (.call "is_set" [.var 0])) [.rais "" []] []]
def d_check_set : Df := ⟨1, 1, [], [], 100, c_check_set⟩
class H_check_set (P : Prg) : Prop extends H_is_set P where
  at_check_set : P.lookup ("check_set" : Str) = some d_check_set
@[simp] theorem sig_check_set {P : Prg} [H_check_set P] : sigOf P ("check_set" : Str) = [] := by rw [sigOf, H_check_set.at_check_set]; rfl
def c_check_start : List CS := [.ite (.not (.isi (.var 0) .bool)) [.rais "" []] []]
def d_check_start : Df := ⟨1, 1, [], [], 100, c_check_start⟩
class H_check_start (P : Prg) : Prop where
  at_check_start : P.lookup ("check_start" : Str) = some d_check_start
@[simp] theorem sig_check_start {P : Prg} [H_check_start P] : sigOf P ("check_start" : Str) = [] := by rw [sigOf, H_check_start.at_check_start]; rfl
def c_is_word : List CS := [.ite (.or (.not (.isi (.var 0) .tuple)) (.or (.cmp .Gt (.b1 .len (.var 0)) (.cst (.int 60))) (.not (.b1 .all (.lc [1] (.call "is_name" [.var 1]) (.nm 1) (.var 0)))))) [.ret (.cst (.bool false))] [], .ret (.cmp .LtE (.b1 .lenset (.var 0)) (.cst (.int 6)))]
def d_is_word : Df := ⟨1, 2, [], [], 100, c_is_word⟩
class H_is_word (P : Prg) : Prop extends H_is_name P where
  at_is_word : P.lookup ("is_word" : Str) = some d_is_word
@[simp] theorem sig_is_word {P : Prg} [H_is_word P] : sigOf P ("is_word" : Str) = [] := by rw [sigOf, H_is_word.at_is_word]; rfl
def c_check_word : List CS := [.ite (.not (.call "is_word" [.var 0])) [.rais "" []] []]
def d_check_word : Df := ⟨1, 1, [], [], 100, c_check_word⟩
class H_check_word (P : Prg) : Prop extends H_is_word P where
  at_check_word : P.lookup ("check_word" : Str) = some d_check_word
@[simp] theorem sig_check_word {P : Prg} [H_check_word P] : sigOf P ("check_word" : Str) = [] := by rw [sigOf, H_check_word.at_check_word]; rfl
def c_is_words : List CS := [.ite (.or (.not (.isi (.var 0) .list)) (.or (.not (.chn .LtE .LtE (.cst (.int 1)) (.b1 .len (.var 0)) (.cst (.int 60)))) (.not (.b1 .all (.lc [1] (.call "is_word" [.var 1]) (.nm 1) (.var 0)))))) [.ret (.cst (.bool false))] [], .ret (.cmp .LtE (.b1 .len (.dc2 [1, 2] [2] (.var 2) (.cst (.bool true)) (.nm 1) (.var 0) (.nm 2) (.var 1))) (.cst (.int 6)))]
def d_is_words : Df := ⟨1, 3, [], [], 100, c_is_words⟩
class H_is_words (P : Prg) : Prop extends H_is_word P where
  at_is_words : P.lookup ("is_words" : Str) = some d_is_words
@[simp] theorem sig_is_words {P : Prg} [H_is_words P] : sigOf P ("is_words" : Str) = [] := by rw [sigOf, H_is_words.at_is_words]; rfl
def c_check_words : List CS := [.ite (.not (.call "is_words" [.var 0])) [.rais "" []] []]
def d_check_words : Df := ⟨1, 1, [], [], 100, c_check_words⟩
class H_check_words (P : Prg) : Prop extends H_is_words P where
  at_check_words : P.lookup ("check_words" : Str) = some d_check_words
@[simp] theorem sig_check_words {P : Prg} [H_check_words P] : sigOf P ("check_words" : Str) = [] := by rw [sigOf, H_check_words.at_check_words]; rfl
def c_edges_of_table : List CS := [.asg 1 (.b1 .dict (.idx (.var 0) (.cst (.int 1)))), .asg 2 (.lst []), .for (.nm 3) (.bin .Add (.b1 .sorted (.var 1)) (.lst [.cst (.str "start")])) [.asg 4 (.ite (.cmp .Eq (.var 3) (.cst (.str "start"))) (.idx (.var 0) (.cst (.int 0))) (.idx (.var 1) (.var 3))), .ite (.isin false (.tup []) (.var 4)) [.app 2 (.tup [.var 3, .cst (.str "end")])] [], .for (.nm 5) (.var 1) [.asg 6 (.lcf [7] (.call "union" [.var 7, .tup [.var 5]]) (.nm 7) (.idx (.var 1) (.var 5)) (.isin true (.var 3) (.var 7))), .ite (.b1 .all (.lc [7] (.or (.cmp .Eq (.var 3) (.var 5)) (.b1 .any (.lc [8] (.call "contains" [.var 7, .var 8]) (.nm 8) (.var 4)))) (.nm 7) (.var 6))) [.app 2 (.tup [.var 3, .var 5])] []]], .ret (.b1 .tuple (.b1 .sorted (.var 2)))]
def d_edges_of_table : Df := ⟨1, 9, [], [2], 100, c_edges_of_table⟩
class H_edges_of_table (P : Prg) : Prop extends H_contains P, H_union P where
  at_edges_of_table : P.lookup ("edges_of_table" : Str) = some d_edges_of_table
@[simp] theorem sig_edges_of_table {P : Prg} [H_edges_of_table P] : sigOf P ("edges_of_table" : Str) = [] := by rw [sigOf, H_edges_of_table.at_edges_of_table]; rfl
def c_fact_after : List CS := [.ret (.ite (.cmp .Eq (.var 0) (.cst (.str "pass"))) (.var 1) (.cmp .Eq (.var 0) (.cst (.str "gen"))))]
def d_fact_after : Df := ⟨2, 2, [], [], 100, c_fact_after⟩
class H_fact_after (P : Prg) : Prop where
  at_fact_after : P.lookup ("fact_after" : Str) = some d_fact_after
@[simp] theorem sig_fact_after {P : Prg} [H_fact_after P] : sigOf P ("fact_after" : Str) = [] := by rw [sigOf, H_fact_after.at_fact_after]; rfl
def c_without : List CS := [.ret (.b1 .tuple (.lcf [2] (.var 2) (.nm 2) (.var 0) (.cmp .NotEq (.var 2) (.var 1))))]
def d_without : Df := ⟨2, 3, [], [], 100, c_without⟩
class H_without (P : Prg) : Prop where
  at_without : P.lookup ("without" : Str) = some d_without
@[simp] theorem sig_without {P : Prg} [H_without P] : sigOf P ("without" : Str) = [] := by rw [sigOf, H_without.at_without]; rfl
def c_is_closed : List CS := [.asg 1 (.dc [2] (.var 2) (.cst (.bool true)) (.nm 2) (.var 0)), .ite (.or (.isin true (.tup []) (.var 1)) (.b1 .any (.lc2 [3, 4] [4] (.isin true (.call "union" [.var 3, .var 4]) (.var 1)) (.nm 3) (.var 0) (.nm 4) (.var 0)))) [.ret (.cst (.bool false))] [], .ret (.b1 .all (.lc [2] (.or (.cmp .Eq (.b1 .len (.var 2)) (.cst (.int 0))) (.b1 .any (.lc [5] (.isin false (.call "without" [.var 2, .var 5]) (.var 1)) (.nm 5) (.var 2)))) (.nm 2) (.var 0)))]
def d_is_closed : Df := ⟨1, 6, [], [], 100, c_is_closed⟩
class H_is_closed (P : Prg) : Prop extends H_union P, H_without P where
  at_is_closed : P.lookup ("is_closed" : Str) = some d_is_closed
@[simp] theorem sig_is_closed {P : Prg} [H_is_closed P] : sigOf P ("is_closed" : Str) = [] := by rw [sigOf, H_is_closed.at_is_closed]; rfl
def c_is_family : List CS := [.ite (.or (.not (.isi (.var 0) .tuple)) (.or (.cmp .Gt (.b1 .len (.var 0)) (.cst (.int 64))) (.not (.b1 .all (.lc [1] (.call "is_set" [.var 1]) (.nm 1) (.var 0)))))) [.ret (.cst (.bool false))] [], .ite (.not (.b1 .all (.lc [2, 3] (.cmp .Lt (.var 2) (.var 3)) (.tp [2, 3]) (.zp (.var 0) (.sl1 (.var 0) (.cst (.int 1))))))) [.ret (.cst (.bool false))] [], .ret (.and (.cmp .LtE (.b1 .len (.dc2 [1, 4] [4] (.var 4) (.cst (.bool true)) (.nm 1) (.var 0) (.nm 4) (.var 1))) (.cst (.int 6))) (.call "is_closed" [.var 0]))]
def d_is_family : Df := ⟨1, 5, [], [], 100, c_is_family⟩
class H_is_family (P : Prg) : Prop extends H_is_closed P, H_is_set P where
  at_is_family : P.lookup ("is_family" : Str) = some d_is_family
@[simp] theorem sig_is_family {P : Prg} [H_is_family P] : sigOf P ("is_family" : Str) = [] := by rw [sigOf, H_is_family.at_is_family]; rfl
def c_table_of_family : List CS := [.asgT [3, 4] (.tup [.dc [5] (.var 5) (.cst (.bool true)) (.nm 5) (.var 0), .lst []]), .for (.nm 2) (.b1 .sorted (.dc2 [5, 2] [2] (.var 2) (.cst (.bool true)) (.nm 5) (.var 0) (.nm 2) (.var 5))) [.app 4 (.tup [.var 2, .call "least" [.lcf [5] (.var 5) (.nm 5) (.var 0) (.and (.isin true (.var 2) (.var 5)) (.isin false (.call "union" [.var 5, .tup [.var 2]]) (.var 3)))]])], .ret (.tup [.var 1, .b1 .tuple (.var 4)])]
def d_table_of_family : Df := ⟨2, 6, [], [4], 100, c_table_of_family⟩
class H_table_of_family (P : Prg) : Prop extends H_least P, H_union P where
  at_table_of_family : P.lookup ("table_of_family" : Str) = some d_table_of_family
@[simp] theorem sig_table_of_family {P : Prg} [H_table_of_family P] : sigOf P ("table_of_family" : Str) = [] := by rw [sigOf, H_table_of_family.at_table_of_family]; rfl
def c_family_table : List CS := [.ite (.not (.call "is_family" [.var 0])) [.rais "" []] [], .ite (.or (.not (.call "are_sets" [.var 1])) (.not (.b1 .all (.lc [2] (.isin false (.var 2) (.var 0)) (.nm 2) (.var 1))))) [.rais "" []] [], .ret (.call "table_of_family" [.var 0, .var 1])]
def d_family_table : Df := ⟨2, 3, [], [], 100, c_family_table⟩
class H_family_table (P : Prg) : Prop extends H_are_sets P, H_is_family P, H_table_of_family P where
  at_family_table : P.lookup ("family_table" : Str) = some d_family_table
@[simp] theorem sig_family_table {P : Prg} [H_family_table P] : sigOf P ("family_table" : Str) = [] := by rw [sigOf, H_family_table.at_family_table]; rfl
def c_fits : List CS := [.asg 2 (.tup []), .asg 3 (.b1 .list (.var 1)), .whl (.cmp .Gt (.b1 .len (.var 3)) (.cst (.int 0))) [.asg 4 (.lcf [5] (.var 5) (.nm 5) (.var 3) (.b1 .any (.lc [6] (.call "contains" [.var 2, .var 6]) (.nm 6) (.get (.var 0) (.var 5) (.tup []))))), .ite (.cmp .Eq (.b1 .len (.var 4)) (.cst (.int 0))) [.ret (.cst (.bool false))] [], .asg 2 (.call "union" [.var 2, .b1 .tuple (.var 4)]), .asg 3 (.lcf [5] (.var 5) (.nm 5) (.var 3) (.isin true (.var 5) (.var 4)))], .ret (.cst (.bool true))]
def d_fits : Df := ⟨2, 7, [], [], 100, c_fits⟩
class H_fits (P : Prg) : Prop extends H_contains P, H_union P where
  at_fits : P.lookup ("fits" : Str) = some d_fits
@[simp] theorem sig_fits {P : Prg} [H_fits P] : sigOf P ("fits" : Str) = [] := by rw [sigOf, H_fits.at_fits]; rfl
def c_subsets : List CS := [.asg 1 (.lst [.tup []]), .for (.nm 2) (.var 0) [.aug .Add 1 (.lc [3] (.bin .Add (.var 3) (.tup [.var 2])) (.nm 3) (.var 1))], .ret (.b1 .sorted (.var 1))]
def d_subsets : Df := ⟨1, 4, [], [1], 100, c_subsets⟩
class H_subsets (P : Prg) : Prop where
  at_subsets : P.lookup ("subsets" : Str) = some d_subsets
@[simp] theorem sig_subsets {P : Prg} [H_subsets P] : sigOf P ("subsets" : Str) = [] := by rw [sigOf, H_subsets.at_subsets]; rfl
def c_fitting_of : List CS := [.ret (.b1 .tuple (.lcf [1] (.var 1) (.nm 1) (.call "subsets" [.b1 .sorted (.var 0)]) (.call "fits" [.var 0, .var 1])))]
def d_fitting_of : Df := ⟨1, 2, [], [], 100, c_fitting_of⟩
class H_fitting_of (P : Prg) : Prop extends H_fits P, H_subsets P where
  at_fitting_of : P.lookup ("fitting_of" : Str) = some d_fitting_of
@[simp] theorem sig_fitting_of {P : Prg} [H_fitting_of P] : sigOf P ("fitting_of" : Str) = [] := by rw [sigOf, H_fitting_of.at_fitting_of]; rfl
def c_uncovered : List CS := [.ret (.lcf [2] (.var 2) (.nm 2) (.var 0) (.not (.b1 .any (.lc [3] (.call "contains" [.var 2, .var 3]) (.nm 3) (.var 1)))))]
def d_uncovered : Df := ⟨2, 4, [], [], 100, c_uncovered⟩
class H_uncovered (P : Prg) : Prop extends H_contains P where
  at_uncovered : P.lookup ("uncovered" : Str) = some d_uncovered
@[simp] theorem sig_uncovered {P : Prg} [H_uncovered P] : sigOf P ("uncovered" : Str) = [] := by rw [sigOf, H_uncovered.at_uncovered]; rfl
def c_gaps : List CS := [.asg 2 (.lc [5] (.tup [.cst (.none), .var 5]) (.nm 5) (.call "uncovered" [.idx (.var 0) (.cst (.int 0)), .idx (.var 1) (.cst (.int 0))])), .for (.tp [3, 4]) (.idx (.var 0) (.cst (.int 1))) [.aug .Add 2 (.lc [5] (.tup [.var 3, .var 5]) (.nm 5) (.call "uncovered" [.var 4, .get (.b1 .dict (.idx (.var 1) (.cst (.int 1)))) (.var 3) (.tup [])]))], .ret (.var 2)]
def d_gaps : Df := ⟨2, 6, [], [2], 100, c_gaps⟩
class H_gaps (P : Prg) : Prop extends H_uncovered P where
  at_gaps : P.lookup ("gaps" : Str) = some d_gaps
@[simp] theorem sig_gaps {P : Prg} [H_gaps P] : sigOf P ("gaps" : Str) = [] := by rw [sigOf, H_gaps.at_gaps]; rfl
def c_goes_on : List CS := [.ret (.and (.cmp .NotEq (.idx (.var 0) (.cst (.int 0))) (.cst (.str "start"))) (.call "contains" [.idx (.var 1) (.cst (.int 1)), .call "union" [.idx (.var 0) (.cst (.int 1)), .tup [.idx (.var 0) (.cst (.int 0))]]]))]
def d_goes_on : Df := ⟨2, 2, [], [], 100, c_goes_on⟩
class H_goes_on (P : Prg) : Prop extends H_contains P, H_union P where
  at_goes_on : P.lookup ("goes_on" : Str) = some d_goes_on
@[simp] theorem sig_goes_on {P : Prg} [H_goes_on P] : sigOf P ("goes_on" : Str) = [] := by rw [sigOf, H_goes_on.at_goes_on]; rfl
def c_grounds : List CS := [.exp (.call "check_words" [.var 0]), .exp (.call "check_word" [.var 1]), .ite (.cmp .Gt (.b1 .len (.dc2 [2, 3] [3] (.var 3) (.cst (.bool true)) (.nm 2) (.bin .Add (.var 0) (.lst [.var 1])) (.nm 3) (.var 2))) (.cst (.int 6))) [.rais "" []] [], .ret (.call "all_grounds" [.var 0, .var 1])]
def d_grounds : Df := ⟨2, 4, [], [], 100, c_grounds⟩
class H_grounds (P : Prg) : Prop extends H_all_grounds P, H_check_word P, H_check_words P where
  at_grounds : P.lookup ("grounds" : Str) = some d_grounds
@[simp] theorem sig_grounds {P : Prg} [H_grounds P] : sigOf P ("grounds" : Str) = [] := by rw [sigOf, H_grounds.at_grounds]; rfl
def c_grown : List CS := [.ite (.cmp .Eq (.b1 .len (.var 1)) (.cst (.int 0))) [.ret (.lst [.b1 .tuple (.b1 .sorted (.var 0))])] [], .asgT [6, 7] (.tup [.idx (.var 1) (.cst (.int 0)), .sl1 (.var 1) (.cst (.int 1))]), .asg 2 (.b1 .any (.lc [9] (.isin false (.call "without" [.var 6, .var 9]) (.var 0)) (.nm 9) (.var 6))), .asg 3 (.lcf [8] (.var 8) (.nm 8) (.var 0) (.call "contains" [.var 6, .var 8])), .asg 4 (.b1 .any (.lc2 [10, 11] [11] (.cmp .Eq (.call "union" [.var 10, .var 11]) (.var 6)) (.nm 10) (.var 3) (.nm 11) (.var 3))), .asg 5 (.ite (.var 2) (.call "grown" [.bin .Add (.var 0) (.lst [.var 6]), .var 7]) (.lst [])), .ret (.ite (.var 4) (.var 5) (.bin .Add (.var 5) (.call "grown" [.var 0, .var 7])))]
def d_grown : Df := ⟨2, 12, [], [], 100, c_grown⟩
class H_grown (P : Prg) : Prop extends H_contains P, H_union P, H_without P where
  at_grown : P.lookup ("grown" : Str) = some d_grown
@[simp] theorem sig_grown {P : Prg} [H_grown P] : sigOf P ("grown" : Str) = [] := by rw [sigOf, H_grown.at_grown]; rfl
def c_has_rows : List CS := [.ite (.or (.not (.isi (.var 0) .tuple)) (.cmp .Gt (.b1 .len (.var 0)) (.cst (.int 6)))) [.ret (.cst (.bool false))] [], .for (.nm 1) (.var 0) [.ite (.or (.not (.isi (.var 1) .tuple)) (.or (.cmp .NotEq (.b1 .len (.var 1)) (.cst (.int 2))) (.or (.not (.call "is_name" [.idx (.var 1) (.cst (.int 0))])) (.not (.call "are_sets" [.idx (.var 1) (.cst (.int 1))]))))) [.ret (.cst (.bool false))] [], .ite (.b1 .any (.lc [2] (.isin false (.idx (.var 1) (.cst (.int 0))) (.var 2)) (.nm 2) (.idx (.var 1) (.cst (.int 1))))) [.ret (.cst (.bool false))] []], .ret (.b1 .all (.lc [3, 4] (.cmp .Lt (.idx (.var 3) (.cst (.int 0))) (.idx (.var 4) (.cst (.int 0)))) (.tp [3, 4]) (.zp (.var 0) (.sl1 (.var 0) (.cst (.int 1))))))]
def d_has_rows : Df := ⟨1, 5, [], [], 100, c_has_rows⟩
class H_has_rows (P : Prg) : Prop extends H_are_sets P, H_is_name P where
  at_has_rows : P.lookup ("has_rows" : Str) = some d_has_rows
@[simp] theorem sig_has_rows {P : Prg} [H_has_rows P] : sigOf P ("has_rows" : Str) = [] := by rw [sigOf, H_has_rows.at_has_rows]; rfl
def c_holds : List CS := [.asg 3 (.lcf [6] (.var 6) (.nm 6) (.idx (.var 0) (.cst (.int 0))) (.b1 .all (.lc [4] (.cmp .Eq (.idx (.var 1) (.var 4)) (.cst (.str "pass"))) (.nm 4) (.var 6)))), .ite (.and (.var 2) (.cmp .Gt (.b1 .len (.var 3)) (.cst (.int 0)))) [.ret (.cst (.bool true))] [], .for (.tp [4, 5]) (.idx (.var 0) (.cst (.int 1))) [.ite (.and (.cmp .Eq (.idx (.var 1) (.var 4)) (.cst (.str "gen"))) (.b1 .any (.lc [6] (.b1 .all (.lc [7] (.cmp .Eq (.idx (.var 1) (.var 7)) (.cst (.str "pass"))) (.nm 7) (.var 6))) (.nm 6) (.var 5)))) [.ret (.cst (.bool true))] []], .ret (.cst (.bool false))]
def d_holds : Df := ⟨3, 8, [], [], 100, c_holds⟩
class H_holds (P : Prg) : Prop where
  at_holds : P.lookup ("holds" : Str) = some d_holds
@[simp] theorem sig_holds {P : Prg} [H_holds P] : sigOf P ("holds" : Str) = [] := by rw [sigOf, H_holds.at_holds]; rfl
def c_is_edge : List CS := [.ite (.or (.not (.isi (.var 0) .tuple)) (.or (.cmp .NotEq (.b1 .len (.var 0)) (.cst (.int 2))) (.not (.b1 .all (.lc [2] (.isi (.var 2) .str) (.nm 2) (.var 0)))))) [.ret (.cst (.bool false))] [], .ret (.and (.or (.isin false (.idx (.var 0) (.cst (.int 0))) (.var 1)) (.cmp .Eq (.idx (.var 0) (.cst (.int 0))) (.cst (.str "start")))) (.or (.isin false (.idx (.var 0) (.cst (.int 1))) (.var 1)) (.cmp .Eq (.idx (.var 0) (.cst (.int 1))) (.cst (.str "end")))))]
def d_is_edge : Df := ⟨2, 3, [], [], 100, c_is_edge⟩
class H_is_edge (P : Prg) : Prop where
  at_is_edge : P.lookup ("is_edge" : Str) = some d_is_edge
@[simp] theorem sig_is_edge {P : Prg} [H_is_edge P] : sigOf P ("is_edge" : Str) = [] := by rw [sigOf, H_is_edge.at_is_edge]; rfl
def c_is_number : List CS := [.ret (.and (.isi (.var 0) .int) (.and (.not (.isi (.var 0) .bool)) (.chn .LtE .LtE (.cst (.int 0)) (.var 0) (.var 1))))]
def d_is_number : Df := ⟨2, 2, [], [], 100, c_is_number⟩
class H_is_number (P : Prg) : Prop where
  at_is_number : P.lookup ("is_number" : Str) = some d_is_number
@[simp] theorem sig_is_number {P : Prg} [H_is_number P] : sigOf P ("is_number" : Str) = [] := by rw [sigOf, H_is_number.at_is_number]; rfl
def c_is_number_v2 : List CS := [.ret (.and (.isi (.var 0) .int) (.and (.not (.isi (.var 0) .bool)) (.chn .LtE .LtE (.var 1) (.var 0) (.var 2))))]
def d_is_number_v2 : Df := ⟨3, 3, [], [], 100, c_is_number_v2⟩
class H_is_number_v2 (P : Prg) : Prop where
  at_is_number_v2 : P.lookup ("is_number" : Str) = some d_is_number_v2
@[simp] theorem sig_is_number_v2 {P : Prg} [H_is_number_v2 P] : sigOf P ("is_number" : Str) = [] := by rw [sigOf, H_is_number_v2.at_is_number_v2]; rfl
def c_marks_for : List CS := [.asg 2 (.b1 .dict (.var 1)), .for (.tp [3, 4]) (.idx (.var 0) (.cst (.int 1))) [.ite (.isin true (.var 3) (.var 2)) [.rais "" []] []], .ret (.var 2)]
def d_marks_for : Df := ⟨2, 5, [], [], 100, c_marks_for⟩
class H_marks_for (P : Prg) : Prop where
  at_marks_for : P.lookup ("marks_for" : Str) = some d_marks_for
@[simp] theorem sig_marks_for {P : Prg} [H_marks_for P] : sigOf P ("marks_for" : Str) = [] := by rw [sigOf, H_marks_for.at_marks_for]; rfl
def c_may_stand : List CS := [.asg 4 (.lcf [5] (.var 5) (.nm 5) (.idx (.var 0) (.cst (.int 0))) (.isin true (.var 3) (.var 5))), .ret (.call "covers" [.call "all_with" [.var 4, .var 2], .call "sets_of" [.var 1, .var 3]])]
def d_may_stand : Df := ⟨4, 6, [], [], 100, c_may_stand⟩
class H_may_stand (P : Prg) : Prop extends H_all_with P, H_covers P, H_sets_of P where
  at_may_stand : P.lookup ("may_stand" : Str) = some d_may_stand
@[simp] theorem sig_may_stand {P : Prg} [H_may_stand P] : sigOf P ("may_stand" : Str) = [] := by rw [sigOf, H_may_stand.at_may_stand]; rfl
def c_order_of : List CS := [.asgT [2, 3] (.tup [.lst [], .var 1]), .whl (.cmp .Gt (.b1 .len (.var 3)) (.cst (.int 0))) [.for (.nm 4) (.var 3) [.asg 5 (.call "without" [.var 3, .var 4]), .ite (.and (.call "fits" [.var 0, .var 5]) (.b1 .any (.lc [6] (.call "contains" [.var 5, .var 6]) (.nm 6) (.idx (.var 0) (.var 4))))) [.brk] []], .app 2 (.var 4), .asg 3 (.var 5)], .ret (.b1 .tuple (.var 2))]
def d_order_of : Df := ⟨2, 7, [], [2], 100, c_order_of⟩
class H_order_of (P : Prg) : Prop extends H_contains P, H_fits P, H_without P where
  at_order_of : P.lookup ("order_of" : Str) = some d_order_of
@[simp] theorem sig_order_of {P : Prg} [H_order_of P] : sigOf P ("order_of" : Str) = [] := by rw [sigOf, H_order_of.at_order_of]; rfl
def c_pairs_of : List CS := [.asg 1 (.lc2 [3, 4, 2] [2] (.tup [.var 3, .var 2]) (.tp [3, 4]) (.idx (.var 0) (.cst (.int 1))) (.nm 2) (.var 4)), .ret (.bin .Add (.var 1) (.lc [2] (.tup [.cst (.str "start"), .var 2]) (.nm 2) (.idx (.var 0) (.cst (.int 0)))))]
def d_pairs_of : Df := ⟨1, 5, [], [], 100, c_pairs_of⟩
class H_pairs_of (P : Prg) : Prop where
  at_pairs_of : P.lookup ("pairs_of" : Str) = some d_pairs_of
@[simp] theorem sig_pairs_of {P : Prg} [H_pairs_of P] : sigOf P ("pairs_of" : Str) = [] := by rw [sigOf, H_pairs_of.at_pairs_of]; rfl
def c_parts_in : List CS := [.ite (.or (.cmp .Gt (.var 1) (.cst (.int 40))) (.not (.call "has_form" [.var 0]))) [.ret (.cst (.none))] [], .asg 2 (.cst (.int 1)), .for (.nm 3) (.call "members" [.var 0]) [.asg 4 (.call "parts_in" [.var 3, .bin .Add (.var 1) (.cst (.int 1))]), .ite (.or (.isn false (.var 4)) (.cmp .Gt (.bin .Add (.var 2) (.var 4)) (.cst (.int 60)))) [.ret (.cst (.none))] [], .asg 2 (.bin .Add (.var 2) (.var 4))], .ret (.var 2)]
def d_parts_in : Df := ⟨2, 5, [], [], 100, c_parts_in⟩
class H_parts_in (P : Prg) : Prop extends H_has_form P, H_members P where
  at_parts_in : P.lookup ("parts_in" : Str) = some d_parts_in
@[simp] theorem sig_parts_in {P : Prg} [H_parts_in P] : sigOf P ("parts_in" : Str) = [] := by rw [sigOf, H_parts_in.at_parts_in]; rfl
def c_placed : List CS := [.for (.nm 4) (.rng1 (.b1 .len (.var 0))) [.ite (.and (.isin true (.var 4) (.var 3)) (.call "goes_on" [.idx (.var 0) (.var 1), .idx (.var 0) (.var 4)])) [.app 3 (.var 4), .ite (.or (.isin true (.var 4) (.var 2)) (.call "placed" [.var 0, .idx (.var 2) (.var 4), .var 2, .var 3])) [.sub 2 (.var 4) (.var 1), .ret (.cst (.bool true))] []] []], .ret (.cst (.bool false))]
def d_placed : Df := ⟨4, 5, [2, 3], [], 100, c_placed⟩
class H_placed (P : Prg) : Prop extends H_goes_on P where
  at_placed : P.lookup ("placed" : Str) = some d_placed
@[simp] theorem sig_placed {P : Prg} [H_placed P] : sigOf P ("placed" : Str) = [2, 3] := by rw [sigOf, H_placed.at_placed]; rfl
def c_program_of_word : List CS := [.asg 1 (.lc [2] (.tup [.cst (.str "do"), .var 2]) (.nm 2) (.var 0)), .ite (.cmp .Eq (.b1 .len (.var 1)) (.cst (.int 0))) [.ret (.tup [.cst (.str "skip")])] [], .ret (.ite (.cmp .Eq (.b1 .len (.var 1)) (.cst (.int 1))) (.idx (.var 1) (.cst (.int 0))) (.bin .Add (.tup [.cst (.str "seq")]) (.b1 .tuple (.var 1))))]
def d_program_of_word : Df := ⟨1, 3, [], [], 100, c_program_of_word⟩
class H_program_of_word (P : Prg) : Prop where
  at_program_of_word : P.lookup ("program_of_word" : Str) = some d_program_of_word
@[simp] theorem sig_program_of_word {P : Prg} [H_program_of_word P] : sigOf P ("program_of_word" : Str) = [] := by rw [sigOf, H_program_of_word.at_program_of_word]; rfl
def c_put_ahead : List CS := [.ret (.bin .Add (.b1 .tuple (.lcf [3] (.var 3) (.nm 3) (.call "order_of" [.var 0, .var 1]) (.isin true (.var 3) (.var 2)))) (.var 2))]
def d_put_ahead : Df := ⟨3, 4, [], [], 100, c_put_ahead⟩
class H_put_ahead (P : Prg) : Prop extends H_order_of P where
  at_put_ahead : P.lookup ("put_ahead" : Str) = some d_put_ahead
@[simp] theorem sig_put_ahead {P : Prg} [H_put_ahead P] : sigOf P ("put_ahead" : Str) = [] := by rw [sigOf, H_put_ahead.at_put_ahead]; rfl
def c_replaced : List CS := [.ite (.cmp .Eq (.idx (.var 0) (.cst (.int 0))) (.cst (.str "do"))) [.ret (.ite (.cmp .Eq (.idx (.var 0) (.cst (.int 1))) (.var 1)) (.var 2) (.var 0))] [], .ret (.bin .Add (.sl2 (.var 0) (.cst (.int 1))) (.b1 .tuple (.lc [3] (.call "replaced" [.var 3, .var 1, .var 2]) (.nm 3) (.call "members" [.var 0]))))]
def d_replaced : Df := ⟨3, 4, [], [], 100, c_replaced⟩
class H_replaced (P : Prg) : Prop extends H_members P where
  at_replaced : P.lookup ("replaced" : Str) = some d_replaced
@[simp] theorem sig_replaced {P : Prg} [H_replaced P] : sigOf P ("replaced" : Str) = [] := by rw [sigOf, H_replaced.at_replaced]; rfl
def c_reverse_of : List CS := [.ite (.isin false (.idx (.var 0) (.cst (.int 0))) (.tup [.cst (.str "do"), .cst (.str "skip")])) [.ret (.var 0)] [], .asg 1 (.lc [2] (.call "reverse_of" [.var 2]) (.nm 2) (.call "members" [.var 0])), .ret (.bin .Add (.sl2 (.var 0) (.cst (.int 1))) (.b1 .tuple (.ite (.cmp .Eq (.idx (.var 0) (.cst (.int 0))) (.cst (.str "seq"))) (.rev (.var 1)) (.var 1))))]
def d_reverse_of : Df := ⟨1, 3, [], [], 100, c_reverse_of⟩
class H_reverse_of (P : Prg) : Prop extends H_members P where
  at_reverse_of : P.lookup ("reverse_of" : Str) = some d_reverse_of
@[simp] theorem sig_reverse_of {P : Prg} [H_reverse_of P] : sigOf P ("reverse_of" : Str) = [] := by rw [sigOf, H_reverse_of.at_reverse_of]; rfl
def c_sets_then : List CS := [.asg 3 (.lcf [4] (.var 4) (.nm 4) (.idx (.var 1) (.cst (.int 0))) (.isin true (.var 2) (.var 4))), .ret (.bin .Add (.call "sets_of" [.var 1, .var 2]) (.b1 .tuple (.lc2 [5, 4] [4] (.call "union" [.var 5, .var 4]) (.nm 5) (.call "sets_of" [.var 0, .var 2]) (.nm 4) (.var 3))))]
def d_sets_then : Df := ⟨3, 6, [], [], 100, c_sets_then⟩
class H_sets_then (P : Prg) : Prop extends H_sets_of P, H_union P where
  at_sets_then : P.lookup ("sets_then" : Str) = some d_sets_then
@[simp] theorem sig_sets_then {P : Prg} [H_sets_then P] : sigOf P ("sets_then" : Str) = [] := by rw [sigOf, H_sets_then.at_sets_then]; rfl
def c_shortened_words : List CS := [.asg 1 (.b1 .list (.var 0)), .for (.nm 2) (.rng3 (.bin .Sub (.b1 .len (.var 0)) (.cst (.int 1))) (.neg (.cst (.int 1))) (.neg (.cst (.int 1)))) [.asg 3 (.bin .Add (.sl2 (.var 1) (.var 2)) (.sl1 (.var 1) (.bin .Add (.var 2) (.cst (.int 1))))), .ite (.and (.cmp .Gt (.b1 .len (.var 3)) (.cst (.int 0))) (.isn true (.call "all_grounds" [.var 3, .idx (.var 1) (.var 2)]))) [.asg 1 (.var 3)] []], .ret (.lc [4] (.call "last_ones" [.var 4]) (.nm 4) (.var 1))]
def d_shortened_words : Df := ⟨1, 5, [], [], 100, c_shortened_words⟩
class H_shortened_words (P : Prg) : Prop extends H_all_grounds P, H_last_ones P where
  at_shortened_words : P.lookup ("shortened_words" : Str) = some d_shortened_words
@[simp] theorem sig_shortened_words {P : Prg} [H_shortened_words P] : sigOf P ("shortened_words" : Str) = [] := by rw [sigOf, H_shortened_words.at_shortened_words]; rfl
def c_shortened : List CS := [.exp (.call "check_words" [.var 0]), .ret (.call "shortened_words" [.var 0])]
def d_shortened : Df := ⟨1, 1, [], [], 100, c_shortened⟩
class H_shortened (P : Prg) : Prop extends H_check_words P, H_shortened_words P where
  at_shortened : P.lookup ("shortened" : Str) = some d_shortened
@[simp] theorem sig_shortened {P : Prg} [H_shortened P] : sigOf P ("shortened" : Str) = [] := by rw [sigOf, H_shortened.at_shortened]; rfl
def c_shortest : List CS := [.ite (.cmp .Eq (.idx (.var 0) (.cst (.int 0))) (.cst (.str "do"))) [.ret (.cst (.int 1))] [], .ite (.isin false (.idx (.var 0) (.cst (.int 0))) (.tup [.cst (.str "skip"), .cst (.str "rep")])) [.ret (.cst (.int 0))] [], .asg 1 (.lc [2] (.call "shortest" [.var 2]) (.nm 2) (.call "members" [.var 0])), .ret (.ite (.cmp .Eq (.idx (.var 0) (.cst (.int 0))) (.cst (.str "seq"))) (.b1 .sum (.var 1)) (.b1 .min (.var 1)))]
def d_shortest : Df := ⟨1, 3, [], [], 100, c_shortest⟩
class H_shortest (P : Prg) : Prop extends H_members P where
  at_shortest : P.lookup ("shortest" : Str) = some d_shortest
@[simp] theorem sig_shortest {P : Prg} [H_shortest P] : sigOf P ("shortest" : Str) = [] := by rw [sigOf, H_shortest.at_shortest]; rfl
def c_straight : List CS := [.asg 2 (.lst []), .for (.nm 3) (.call "after" [.idx (.var 0) (.cst (.int 1)), .idx (.var 1) (.neg (.cst (.int 1)))]) [.ite (.and (.isin true (.var 3) (.var 1)) (.not (.b1 .any (.lc [4] (.isin false (.tup [.var 4, .var 3]) (.idx (.var 0) (.cst (.int 1)))) (.nm 4) (.sl2 (.var 1) (.neg (.cst (.int 1)))))))) [.aug .Add 2 (.ite (.cmp .Eq (.var 3) (.cst (.str "end"))) (.lst [.var 1]) (.call "straight" [.var 0, .bin .Add (.var 1) (.tup [.var 3])]))] []], .ret (.var 2)]
def d_straight : Df := ⟨2, 5, [], [2], 100, c_straight⟩
class H_straight (P : Prg) : Prop extends H_after P where
  at_straight : P.lookup ("straight" : Str) = some d_straight
@[simp] theorem sig_straight {P : Prg} [H_straight P] : sigOf P ("straight" : Str) = [] := by rw [sigOf, H_straight.at_straight]; rfl
def c_table_of_word : List CS := [.asg 1 (.lst []), .for (.nm 2) (.b1 .sorted (.dc [2] (.var 2) (.cst (.bool true)) (.nm 2) (.var 0))) [.asg 3 (.b1 .max (.lcf [4, 5] (.var 4) (.tp [4, 5]) (.enm (.var 0)) (.cmp .Eq (.var 5) (.var 2)))), .app 1 (.tup [.var 2, .tup [.call "union" [.sl1 (.var 0) (.bin .Add (.var 3) (.cst (.int 1))), .tup []]]])], .ret (.tup [.tup [.call "union" [.var 0, .tup []]], .b1 .tuple (.var 1)])]
def d_table_of_word : Df := ⟨1, 6, [], [1], 100, c_table_of_word⟩
class H_table_of_word (P : Prg) : Prop extends H_union P where
  at_table_of_word : P.lookup ("table_of_word" : Str) = some d_table_of_word
@[simp] theorem sig_table_of_word {P : Prg} [H_table_of_word P] : sigOf P ("table_of_word" : Str) = [] := by rw [sigOf, H_table_of_word.at_table_of_word]; rfl
def c_ways_from : List CS := [.ret (.b1 .sorted (.lc [2] (.sl1 (.var 2) (.cst (.int 1))) (.nm 2) (.call "straight" [.var 0, .tup [.var 1]])))]
def d_ways_from : Df := ⟨2, 3, [], [], 100, c_ways_from⟩
class H_ways_from (P : Prg) : Prop extends H_straight P where
  at_ways_from : P.lookup ("ways_from" : Str) = some d_ways_from
@[simp] theorem sig_ways_from {P : Prg} [H_ways_from P] : sigOf P ("ways_from" : Str) = [] := by rw [sigOf, H_ways_from.at_ways_from]; rfl
def c_word_of_chain : List CS := [.asg 3 (.tup []), .for (.tp [4, 5]) (.var 1) [.asg 3 (.call "put_ahead" [.var 0, .var 5, .var 3]), .ite (.cmp .NotEq (.var 4) (.cst (.str "start"))) [.asg 3 (.bin .Add (.tup [.var 4]) (.var 3))] []], .ret (.call "put_ahead" [.var 0, .var 2, .var 3])]
def d_word_of_chain : Df := ⟨3, 6, [], [], 100, c_word_of_chain⟩
class H_word_of_chain (P : Prg) : Prop extends H_put_ahead P where
  at_word_of_chain : P.lookup ("word_of_chain" : Str) = some d_word_of_chain
@[simp] theorem sig_word_of_chain {P : Prg} [H_word_of_chain P] : sigOf P ("word_of_chain" : Str) = [] := by rw [sigOf, H_word_of_chain.at_word_of_chain]; rfl
def c_word_table : List CS := [.exp (.call "check_word" [.var 0]), .ret (.call "table_of_word" [.var 0])]
def d_word_table : Df := ⟨1, 1, [], [], 100, c_word_table⟩
class H_word_table (P : Prg) : Prop extends H_check_word P, H_table_of_word P where
  at_word_table : P.lookup ("word_table" : Str) = some d_word_table
@[simp] theorem sig_word_table {P : Prg} [H_word_table P] : sigOf P ("word_table" : Str) = [] := by rw [sigOf, H_word_table.at_word_table]; rfl
def c_words_of_table : List CS := [.asgT [3, 4] (.var 0), .asg 1 (.lc [7] (.call "order_of" [.b1 .dict (.var 4), .var 7]) (.nm 7) (.var 3)), .asg 2 (.idx (.var 1) (.cst (.int 0))), .for (.tp [5, 6]) (.var 4) [.for (.nm 7) (.var 6) [.app 1 (.call "last_ones" [.bin .Add (.bin .Add (.var 2) (.tup [.var 5])) (.call "order_of" [.b1 .dict (.var 4), .var 7])])]], .ret (.b1 .list (.dc [8] (.var 8) (.cst (.bool true)) (.nm 8) (.var 1)))]
def d_words_of_table : Df := ⟨1, 9, [], [1], 100, c_words_of_table⟩
class H_words_of_table (P : Prg) : Prop extends H_last_ones P, H_order_of P where
  at_words_of_table : P.lookup ("words_of_table" : Str) = some d_words_of_table
@[simp] theorem sig_words_of_table {P : Prg} [H_words_of_table P] : sigOf P ("words_of_table" : Str) = [] := by rw [sigOf, H_words_of_table.at_words_of_table]; rfl
def c_words_of_text : List CS := [.asgT [2, 3] (.tup [.lst [], .cst (.str "")]), .for (.nm 1) (.bin .Add (.var 0) (.cst (.str " "))) [.ite (.isin false (.var 1) (.cst (.str "abcdefghijklmnopqrstuvwxyz"))) [.aug .Add 3 (.var 1)] [.ite (.cmp .NotEq (.var 3) (.cst (.str ""))) [.app 2 (.var 3)] [], .asg 3 (.cst (.str "")), .ite (.isin false (.var 1) (.cst (.str "();|*"))) [.app 2 (.var 1)] [.ite (.cmp .NotEq (.var 1) (.cst (.str " "))) [.rais "" []] []]]], .ite (.cmp .Gt (.b1 .len (.var 2)) (.bin .Mult (.cst (.int 4)) (.cst (.int 60)))) [.rais "" []] [], .ret (.var 2)]
def d_words_of_text : Df := ⟨1, 4, [], [2, 3], 100, c_words_of_text⟩
class H_words_of_text (P : Prg) : Prop where
  at_words_of_text : P.lookup ("words_of_text" : Str) = some d_words_of_text
@[simp] theorem sig_words_of_text {P : Prg} [H_words_of_text P] : sigOf P ("words_of_text" : Str) = [] := by rw [sigOf, H_words_of_text.at_words_of_text]; rfl
end LB
end
section
namespace LB
open PySem Mi
variable {P : Prg}
def lastOnes : List Str → List Str
  | [] => []
  | x :: r => if x ∈ r then lastOnes r else x :: lastOnes r
def behind : List Str → Str → List Str
  | [], _ => []
  | _ :: r, x => if x ∈ r then behind r x else r
theorem last_zip (a : List Str) : ((a.zipIdx.filter fun p => !decide (p.1 ∈ a.drop (p.2 + 1))).map (·.1)) = lastOnes a := by
  have : ∀ (r : List Str) (k : Nat), a.drop k = r → (((r.zipIdx k).filter fun p => !decide (p.1 ∈ a.drop (p.2 + 1))).map (·.1)) = lastOnes r := fun r => by
    induction r with
    | nil => intro k _; rfl
    | cons x r ih =>
      intro k hk
      have h1 : a.drop (k + 1) = r := by rw [← List.drop_drop, hk]; rfl
      rw [List.zipIdx_cons, List.filter_cons]
      have := ih (k + 1) h1
      simp only [h1, lastOnes]
      by_cases q : x ∈ r
      · simpa [q] using this
      · simpa [q] using this
  exact this a 0 rfl
theorem mem_lastOnes (x : Str) : ∀ a : List Str, x ∈ lastOnes a ↔ x ∈ a
  | [] => Iff.rfl
  | y :: r => by
    unfold lastOnes
    split
    · rename_i q
      rw [mem_lastOnes x r, List.mem_cons]
      exact ⟨.inr, fun z => z.elim (fun e => e ▸ q) id⟩
    · rw [List.mem_cons, List.mem_cons, mem_lastOnes x r]
theorem lastOnes_len : ∀ a : List Str, (lastOnes a).length ≤ a.length
  | [] => Nat.le_refl _
  | x :: r => by
    unfold lastOnes
    have := lastOnes_len r
    split <;> simp <;> omega
theorem behind_at {x : Str} : ∀ {a : List Str} {m : Nat}, a[m]? = some x → x ∉ a.drop (m + 1) → a.drop (m + 1) = behind a x
  | [], m, h, _ => by simp at h
  | y :: r, 0, h, n => by
    have n : x ∉ r := n
    show r = _
    unfold behind
    rw [if_neg n]
  | y :: r, m + 1, h, n => by
    have h : r[m]? = some x := h
    have n : x ∉ r.drop (m + 1) := n
    show r.drop (m + 1) = _
    unfold behind
    rw [if_pos (List.mem_of_getElem? h)]
    exact behind_at h n
theorem behind_len (x : Str) : ∀ a : List Str, (behind a x).length ≤ a.length
  | [] => Nat.le_refl _
  | y :: r => by
    unfold behind
    have := behind_len x r
    split <;> simp <;> omega
theorem behind_sub (x : Str) : ∀ (a : List Str) (z : Str), z ∈ behind a x → z ∈ a
  | [], z, h => h
  | y :: r, z, h => by
    unfold behind at h
    split at h
    · exact List.mem_cons_of_mem _ (behind_sub x r z h)
    · exact List.mem_cons_of_mem _ h
theorem last_place {a : List Str} {x : Str} (h : x ∈ a) : ∃ m : Nat, maxL ((a.zipIdx.filter fun p => decide (p.1 = x)).map fun p => (p.2 : Int)) = some (m : Int) ∧ a[m]? = some x ∧ x ∉ a.drop (m + 1) := by
  obtain ⟨i, hi, e⟩ := List.getElem_of_mem h
  have hm : (i : Int) ∈ ((a.zipIdx.filter fun p => decide (p.1 = x)).map fun p => (p.2 : Int)) := by
    refine List.mem_map.mpr ⟨(x, i), ?_, rfl⟩
    rw [List.mem_filter]
    exact ⟨List.mem_zipIdx_iff_getElem?.mpr (by rw [List.getElem?_eq_getElem hi, e]), by simp⟩
  obtain ⟨n, h1, h2, h3⟩ := max_ints hm
  obtain ⟨p, hp, rfl⟩ := List.mem_map.mp h2
  rw [List.mem_filter] at hp
  have hp1 := List.mem_zipIdx_iff_getElem?.mp hp.1
  have hp2 : p.1 = x := by simpa using hp.2
  refine ⟨p.2, h1, hp2 ▸ hp1, fun q => ?_⟩
  obtain ⟨j, hj, ej⟩ := List.getElem_of_mem q
  rw [List.getElem_drop] at ej
  have hj' : p.2 + 1 + j < a.length := by rw [List.length_drop] at hj; omega
  have := h3 ((p.2 + 1 + j : Nat) : Int) (List.mem_map.mpr ⟨(x, p.2 + 1 + j), by
    rw [List.mem_filter]
    exact ⟨List.mem_zipIdx_iff_getElem?.mpr (by rw [List.getElem?_eq_getElem hj', ej]), by simp⟩, rfl⟩)
  omega
theorem intsD_map {α : Type} (g : α → Int) : ∀ xs : List α, intsD (xs.map fun x => .int (g x)) = some (xs.map g)
  | [] => rfl
  | x :: r => by
    show (intsD (r.map fun x => .int (g x))).map (g x :: ·) = _
    rw [intsD_map g r]
    rfl
@[simp] theorem b1_max {α : Type} (g : α → Int) (xs : List α) : b1Op .max (Ls (fun x => .int (g x)) xs) = (maxL (xs.map g)).map fun n => (false, .int n) := by
  show (intsD (xs.map fun x => .int (g x))).bind (fun ns => (maxL ns).map fun n => ((false, .int n) : Rs)) = _
  rw [intsD_map]
  rfl
theorem contains_ev [H_contains P] (n : Nat) (a b : List Str) (hb : b.length ≤ sizeLine) : callF P (n + 1) "contains" [.shr (T .str a), .shr (T .str b)] = .ret (false, .bool (b.all fun x => decide (x ∈ a))) [.emp, .emp] := by
  rw [callF_pure H_contains.at_contains _ _ rfl rfl]
  simp [c_contains, evE_sel, hb]
theorem last_ones_ev [H_last_ones P] (n : Nat) (a : List Str) (ha : a.length ≤ sizeLine) : callF P (n + 1) "last_ones" [.shr (T .str a)] = .ret (false, T .str (lastOnes a)) [.emp] := by
  rw [callF_pure H_last_ones.at_last_ones _ _ rfl rfl]
  simp [c_last_ones, evE_sel, ha]
  rw [← last_zip, T_map]
theorem behind_last_ev [H_behind_last P] (n : Nat) (a : List Str) (x : Str) (ha : a.length ≤ sizeLine) (hx : x ∈ a) : callF P (n + 1) "behind_last" [.shr (T .str a), .shr (.str x)] = .ret (false, T .str (behind a x)) [.emp, .emp] := by
  rw [callF_pure H_behind_last.at_behind_last _ _ rfl rfl]
  obtain ⟨m, h1, h2, h3⟩ := last_place hx
  simp [c_behind_last, evE_sel, ha, hx, h1]
  rw [behind_at h2 h3]
def insideW (w o : List Str) : Bool := decide (∀ x ∈ o, x ∈ w)
def showsW (w : List Str) (x : Str) (o : List Str) : Bool := decide (x ∈ o ∧ ∀ z ∈ behind o x, z ∈ behind w x)
def rowsG (ws : List (List Str)) (w : List Str) : List (List (List Str)) := ws.filter (insideW w) :: (lastOnes w).map fun x => ws.filter (showsW w x)
def allG (ws : List (List Str)) (w : List Str) : Option (List (List Str)) := if [] ∈ rowsG ws w then none else some ((rowsG ws w).map fun r => r.headD [])
def optD {α : Type} (f : α → D) : Option α → D
  | some a => f a
  | none => .none
theorem all_grounds_ev [H_all_grounds P] (n : Nat) (ws : List (List Str)) (w : List Str) (hw : w.length ≤ 1000) (hws : ws.length ≤ 1000) (hw1 : ∀ o ∈ ws, o.length ≤ 1000) :
    callF P (n + 2) "all_grounds" [.shr (Ls (T .str) ws), .shr (T .str w)] = .ret ((allG ws w).isSome, optD (Ls (T .str)) (allG ws w)) [.emp, .emp] := by
  rw [callF_pure H_all_grounds.at_all_grounds _ _ rfl rfl]
  have e1 : sizeLine = 16777216 := by rfl
  have hw' : w.length ≤ sizeLine := by omega
  have hws' : ws.length ≤ sizeLine := by omega
  have hw1' : ∀ o ∈ ws, o.length ≤ sizeLine := fun o ho => by have := hw1 o ho; omega
  have hb : ∀ o ∈ ws, ∀ x, (behind o x).length ≤ sizeLine := fun o ho x => Nat.le_trans (behind_len x o) (hw1' o ho)
  have e1' : 1 ≤ sizeLine := by omega
  simp (config := {contextual := true}) [c_all_grounds, evE_sel, evI_sel, hws', callP, contains_ev, last_ones_ev, hw', hw1', e1']
  refine seq_for (fun f => endP 2 f = _) (fun pre ρ => ∃ s3 s4, ρ = [.shr (Ls (T .str) ws), .shr (T .str w), .own (.list (Ls (T .str) ((ws.filter (insideW w)).take 1) :: pre.map fun x => Ls (T .str) ((ws.filter (showsW w x)).take 1))), s3, s4, .emp, .emp]) ⟨_, _, rfl⟩ ?_ ?_
  · rintro pre x post ρ e ⟨s3, s4, rfl⟩
    have hx' : x ∈ w := (mem_lastOnes x w).mp (by rw [e]; simp)
    have hl : pre.length + 1 < sizeLine := by
      have := lastOnes_len w
      rw [e] at this
      simp at this
      omega
    simp (config := {contextual := true}) [evE_sel, callP, contains_ev, behind_last_ev, hw', hws', hw1', hb, hx', hl]
    unfold showsW
    simp
  · rintro ρ' ⟨s3, s4, rfl⟩
    have e2 : PyData.list (Ls (T .str) ((ws.filter (insideW w)).take 1) :: (lastOnes w).map fun x => Ls (T .str) ((ws.filter (showsW w x)).take 1)) = Ls (Ls (T .str)) ((rowsG ws w).map (·.take 1)) := by simp [rowsG, Ls]
    have hl : (rowsG ws w).length ≤ sizeLine := by
      have := lastOnes_len w
      simp [rowsG]
      omega
    rw [e2]
    by_cases hn : [] ∈ rowsG ws w
    · simp (config := {contextual := true}) [evE_sel, hl, hn, allG, optD]
    · have hh : ∀ x ∈ rowsG ws w, x[0]? = some (x.headD []) := fun x hx => by
        cases x with
        | nil => exact absurd hx hn
        | cons a r => rfl
      simp (config := {contextual := true}) [evE_sel, hl, hn, hh, allG, optD, L_map]
end LB
end
section
namespace LB
open PySem Mi
variable {P : Prg}
theorem range_split {N x : Nat} {pre post : List Nat} (h : List.range N = pre ++ x :: post) : x = pre.length ∧ pre.length < N := by
  have h1 : (List.range N)[pre.length]? = some x := by rw [h]; simp
  rw [List.getElem?_eq_some_iff] at h1
  obtain ⟨h2, h3⟩ := h1
  rw [List.getElem_range] at h3
  exact ⟨h3.symm, by simpa using h2⟩
theorem take_ev [H__law_take P] (n : Nat) (m k : Int) (hk : 0 < k) (hk2 : k < 1000000) : callF P (n + 1) "_law_take" [.own (.list [.int m]), .shr (.int k)] = .ret (false, .int (m % k)) [.own (.list [.int (m / k)]), .emp] := by
  rw [callF_io H__law_take.at__law_take _ _ rfl]
  simp [c__law_take, evE_sel, hk, divOk_of hk (by omega)]
  rfl
theorem mixed_ev [H__law_mixed P] (n : Nat) (m k : Int) (hk : k.natAbs < 1000000) : ∃ c : Int, (0 ≤ c ∧ c < 2147483579) ∧ callF P (n + 1) "_law_mixed" [.shr (.int m), .shr (.int k)] = .ret (false, .int c) [.emp, .emp] := by
  have a1 : mulOk (m % 2147483647) 48271 = true := mulOk_of (by have := Int.emod_nonneg m (show (2147483647 : Int) ≠ 0 by decide); have := Int.emod_lt_of_pos m (show (0 : Int) < 2147483647 by decide); omega) (by omega)
  have a2 : mulOk k 69621 = true := mulOk_of (by omega) (by omega)
  have p : ∀ x : Int, 0 ≤ x % 2147483629 ∧ x % 2147483629 < 2147483629 := fun x => ⟨Int.emod_nonneg x (by decide), Int.emod_lt_of_pos x (by decide)⟩
  have q : ∀ x : Int, 0 ≤ x % 2147483587 ∧ x % 2147483587 < 2147483587 := fun x => ⟨Int.emod_nonneg x (by decide), Int.emod_lt_of_pos x (by decide)⟩
  have a3 : ∀ x : Int, mulOk (x % 2147483629) (x % 2147483629) = true := fun x => by have := p x; exact mulOk_of (by omega) (by omega)
  have a4 : ∀ x : Int, mulOk (x % 2147483587) (x % 2147483587 + 2) = true := fun x => by have := q x; exact mulOk_of (by omega) (by omega)
  have : ∃ x : Int, callF P (n + 1) "_law_mixed" [.shr (.int m), .shr (.int k)] = .ret (false, .int (x % 2147483579)) [.emp, .emp] := by
    rw [callF_pure H__law_mixed.at__law_mixed _ _ rfl rfl]
    apply Exists.intro
    simp [c__law_mixed, evE_sel, a1, a2, a3, a4]
    rfl
  obtain ⟨x, hx⟩ := this
  exact ⟨_, ⟨Int.emod_nonneg _ (by decide), Int.emod_lt_of_pos _ (by decide)⟩, hx⟩
theorem cell_ev [H__law_cell P] (n : Nat) (ns : List Int) (k : Nat) (hk : k ≤ 1000) : ∃ c : Int, callF P (n + 2) "_law_cell" [.shr (scrD (ns.map PyData.int)), .shr (.int k)] = .ret (false, .int c) [.emp, .emp] := by
  rw [callF_pure H__law_cell.at__law_cell _ _ rfl rfl]
  have m1 : mulOk (10 ^ 60) (10 ^ 60) = true := by decide +kernel
  have m2 : mulOk (10 ^ 120) (10 ^ 60) = true := by decide +kernel
  have m3 : mulOk (10 ^ 180) (10 ^ 60) = true := by decide +kernel
  have r24 : rngOk 24 = true := by decide
  have loop : ∀ (m : Int) s4, ∃ c : Int, endP 2
          (seqF (forW (.nm 4) (evSs { call := callF P (n + 1), sig := sigOf P, mu := [], fx := [], fuel := 100 }
                [CS.asg 3
                    (CE.bin Operator.Add (CE.bin Operator.Mult (CE.var 3) (CE.cst (PyData.int 2147483579)))
                      (CE.call (Str.ofString "_law_mixed")
                        [CE.var 2,
                          CE.bin Operator.Add
                            (CE.bin Operator.Add (CE.bin Operator.Mult (CE.cst (PyData.int 7)) (CE.var 1))
                              (CE.bin Operator.Mult (CE.cst (PyData.int 100)) (CE.var 4)))
                            (CE.bin Operator.Mult (CE.var 4) (CE.var 4))]))]) (mapE (fun (i : Nat) => PyData.int ↑i) (List.range 24))
              [Slot.shr (scrD (List.map PyData.int ns)), Slot.shr (PyData.int ↑k), Slot.shr (PyData.int m),
                Slot.shr (PyData.int 0), s4])
            (evSs { call := callF P (n + 1), sig := sigOf P, mu := [], fx := [], fuel := 100 } [CS.ret (CE.var 3)])) = CRes.ret (false, PyData.int c) [Slot.emp, Slot.emp] := fun m s4 => by
    refine seq_for (fun f => ∃ c : Int, endP 2 f = CRes.ret (false, PyData.int c) [Slot.emp, Slot.emp]) (fun pre ρ => ∃ (f : Int) (s : Mi.Slot), f.natAbs < 2 ^ (32 * pre.length) ∧ ρ = [Slot.shr (scrD (List.map PyData.int ns)), Slot.shr (PyData.int ↑k), Slot.shr (PyData.int m), Slot.shr (PyData.int f), s]) ⟨0, s4, by simp, rfl⟩ ?_ ?_
    · rintro pre x post ρ e ⟨f, s, hf, rfl⟩
      obtain ⟨hx, hp⟩ := range_split e
      have hx24 : x < 24 := by omega
      have hxx : (x : Int) * (x : Int) ≤ 24 * 24 := Int.mul_le_mul (by omega) (by omega) (by omega) (by omega)
      have hxx0 : 0 ≤ (x : Int) * (x : Int) := Int.mul_nonneg (by omega) (by omega)
      obtain ⟨c, hc, ec⟩ := mixed_ev (P := P) n m (7 * (k : Int) + 100 * (x : Int) + (x : Int) * (x : Int)) (by omega)
      have b1 : mulOk f 2147483579 = true := mulOk_k (32 * pre.length) (by omega) hf (by omega)
      have b2 : mulOk 7 (k : Int) = true := mulOk_of (by omega) (by omega)
      have b3 : mulOk 100 (x : Int) = true := mulOk_of (by omega) (by omega)
      have b4 : mulOk (x : Int) (x : Int) = true := mulOk_of (by omega) (by omega)
      refine ⟨_, _, rfl, ?_, f * 2147483579 + c, .shr (.int x), ?_, rfl⟩
      · simp [evE_sel, callP, b1, b2, b3, b4, ec]
      · have : (2 : Nat) ^ (32 * (pre ++ [x]).length) = 2 ^ (32 * pre.length) * 4294967296 := by
          rw [List.length_append, List.length_singleton, Nat.mul_add, Nat.pow_add]
        rw [this]
        have h1 : (f * 2147483579 + c).natAbs ≤ f.natAbs * 2147483579 + 2147483579 := by
          have := Int.natAbs_add_le (f * 2147483579) c
          rw [Int.natAbs_mul] at this
          omega
        have h2 : f.natAbs + 1 ≤ 2 ^ (32 * pre.length) := hf
        omega
    · rintro ρ' ⟨f, s, hf, rfl⟩
      exact ⟨f, by simp⟩
  by_cases h : k < ns.length
  · by_cases h18 : 1000000000000000000 ≤ ns[k]
    · apply Exists.intro
      simp [c__law_cell, evE_sel, evI_sel, h, m1, m2, m3, h18]
      rfl
    · obtain ⟨c, hc⟩ := loop ns[k] .emp
      refine ⟨c, ?_⟩
      simp [c__law_cell, evE_sel, evI_sel, h, m1, m2, m3, h18, r24]
      exact hc
  · obtain ⟨c, hc⟩ := loop 0 .emp
    refine ⟨c, ?_⟩
    simp [c__law_cell, evE_sel, evI_sel, h, r24]
    exact hc
end LB
end
section
namespace LB
open PySem Mi
variable {P : Prg}
def okName (x : Str) : Prop := (1 ≤ x.length ∧ x.length ≤ 8) ∧ ¬(x = Str.ofString "skip" ∨ x = Str.ofString "start" ∨ x = Str.ofString "end") ∧ (x.cps.all fun c => decide (c ∈ (Str.ofString "abcdefghijklmnopqrstuvwxyz").cps)) = true
instance (x : Str) : Decidable (okName x) := by unfold okName; infer_instance
theorem is_name_ev [H_is_name P] (n : Nat) (x : Str) (hx : x.length ≤ sizeLine) : callF P (n + 1) "is_name" [.shr (.str x)] = .ret (false, .bool (decide (okName x))) [.emp] := by
  rw [callF_pure H_is_name.at_is_name _ _ rfl rfl]
  have hx2 : x.cps.size ≤ sizeLine := hx
  simp (config := {contextual := true}) [c_is_name, evE_sel, hx, hx2]
  by_cases h : okName x
  · rw [if_neg (by obtain ⟨⟨h1, h2⟩, h3, h4⟩ := h; rintro (h | h); omega; exact h3 h)]
    simp [h, h.2.2]
  · split
    · simp [h]
    · rename_i q
      rw [not_or] at q
      have : ¬ (x.cps.all fun c => decide (c ∈ (Str.ofString "abcdefghijklmnopqrstuvwxyz").cps)) = true := fun z => h ⟨by omega, q.2, z⟩
      simp only [h, decide_false]
      rw [Bool.not_eq_true] at this
      rw [this]
theorem is_word_ev [H_is_word P] (n : Nat) (w : List Str) (hx : w.length ≤ sizeLine) (hn : ∀ x ∈ w, x.length ≤ sizeLine) : callF P (n + 2) "is_word" [.shr (T .str w)] = .ret (false, .bool (decide (w.length ≤ 60 ∧ (∀ x ∈ w, okName x) ∧ (ded w).length ≤ 6))) [.emp] := by
  rw [callF_pure H_is_word.at_is_word _ _ rfl rfl]
  by_cases h60 : w.length ≤ 60
  · simp (config := {contextual := true}) [c_is_word, evE_sel, hx, hn, callP, is_name_ev, show w.length ≤ 4000 by omega, ddS_ded, show ¬ 60 < w.length by omega, h60]
    by_cases h : ∀ x ∈ w, okName x
    · rw [if_neg (by simpa using h)]
      simp [h]
      exact fun _ => h
    · rw [if_pos (by simpa using h)]
      simp [h]
  · simp (config := {contextual := true}) [c_is_word, evE_sel, hx, hn, callP, is_name_ev, show 60 < w.length by omega, h60]
def okWord (w : List Str) : Prop := w.length ≤ 60 ∧ (∀ x ∈ w, okName x) ∧ (ded w).length ≤ 6
instance (w : List Str) : Decidable (okWord w) := by unfold okWord; infer_instance
theorem okName.len {x : Str} (h : okName x) : x.length ≤ sizeLine := Nat.le_trans h.1.2 (by decide)
theorem is_word_ok [H_is_word P] (n : Nat) (w : List Str) (h : okWord w) : callF P (n + 2) "is_word" [.shr (T .str w)] = .ret (false, .bool true) [.emp] := by
  rw [is_word_ev n w (Nat.le_trans h.1 (by decide)) fun x hx => (h.2.1 x hx).len]
  simp [h.1, h.2.2]
  exact h.2.1
theorem check_word_ok [H_check_word P] (n : Nat) (w : List Str) (h : okWord w) : callF P (n + 3) "check_word" [.shr (T .str w)] = .ret (false, .none) [.emp] := by
  rw [callF_pure H_check_word.at_check_word _ _ rfl rfl]
  simp [c_check_word, evE_sel, callP, is_word_ok, h]
def okWords (ws : List (List Str)) : Prop := (1 ≤ ws.length ∧ ws.length ≤ 60) ∧ (∀ w ∈ ws, okWord w) ∧ (ded ws.flatten).length ≤ 6
theorem sum_len (ws : List (List Str)) (h : ∀ w ∈ ws, w.length ≤ 60) : (ws.map List.length).sum ≤ 60 * ws.length := by
  induction ws with
  | nil => simp
  | cons w r ih =>
    have h1 := h w List.mem_cons_self
    have h2 := ih fun w hw => h w (List.mem_cons_of_mem _ hw)
    simp only [List.map_cons, List.sum_cons, List.length_cons]
    omega
theorem is_words_ok [H_is_words P] (n : Nat) (ws : List (List Str)) (h : okWords ws) : callF P (n + 3) "is_words" [.shr (Ls (T .str) ws)] = .ret (false, .bool true) [.emp] := by
  rw [callF_pure H_is_words.at_is_words _ _ rfl rfl]
  obtain ⟨⟨h1, h2⟩, h3, h4⟩ := h
  have e1 : sizeLine = 16777216 := by rfl
  have hs := sum_len ws fun w hw => (h3 w hw).1
  have n1 : ws ≠ [] := fun z => by rw [z] at h1; simp at h1
  simp (config := {contextual := true}) [c_is_words, evE_sel, callP, is_word_ok, h3, n1, show ¬ 60 < ws.length by omega, show ws.length ≤ sizeLine by omega, show (ws.map List.length).sum ≤ sizeLine by omega, h4]
theorem check_words_ok [H_check_words P] (n : Nat) (ws : List (List Str)) (h : okWords ws) : callF P (n + 4) "check_words" [.shr (Ls (T .str) ws)] = .ret (false, .none) [.emp] := by
  rw [callF_pure H_check_words.at_check_words _ _ rfl rfl]
  simp [c_check_words, evE_sel, callP, is_words_ok, h]
theorem grounds_ok [H_grounds P] (n : Nat) (ws : List (List Str)) (w : List Str) (h : okWords ws) (hw : okWord w) (h6 : (ded (ws.flatten ++ w)).length ≤ 6) : callF P (n + 5) "grounds" [.shr (Ls (T .str) ws), .shr (T .str w)] = .ret ((allG ws w).isSome, optD (Ls (T .str)) (allG ws w)) [.emp, .emp] := by
  rw [callF_pure H_grounds.at_grounds _ _ rfl rfl]
  have e1 : sizeLine = 16777216 := by rfl
  have hs := sum_len ws fun w hw => (h.2.1 w hw).1
  obtain ⟨h1, h2⟩ := h.1
  have hl := hw.1
  simp (config := {contextual := true}) [c_grounds, evE_sel, callP, check_words_ok, check_word_ok, h, hw, show ws.length + 1 ≤ sizeLine by omega, show (ws.map List.length).sum + w.length ≤ sizeLine by omega, show ¬ 6 < (ded (ws.flatten ++ w)).length by omega, show w.length ≤ 1000 by omega, all_grounds_ev, show ws.length ≤ 1000 by omega, fun o ho => Nat.le_trans (h.2.1 o ho).1 (show 60 ≤ 1000 by decide)]
def shR : List (List Str) → List (List Str) → List (List Str)
  | [], kept => kept
  | w :: r, kept => if r.reverse ++ kept ≠ [] ∧ (allG (r.reverse ++ kept) w).isSome = true then shR r kept else shR r (w :: kept)
theorem mem_shR : ∀ (r kept : List (List Str)) (o : List Str), o ∈ shR r kept → o ∈ r ∨ o ∈ kept
  | [], kept, o, h => .inr h
  | w :: r, kept, o, h => by
    unfold shR at h
    split at h
    · rcases mem_shR r kept o h with q | q
      · exact .inl (List.mem_cons_of_mem _ q)
      · exact .inr q
    · rcases mem_shR r _ o h with q | q
      · exact .inl (List.mem_cons_of_mem _ q)
      · rcases List.mem_cons.mp q with q | q
        · exact .inl (by rw [q]; exact List.mem_cons_self)
        · exact .inr q
theorem len_shR : ∀ (r kept : List (List Str)), (shR r kept).length ≤ r.length + kept.length
  | [], kept => by simp [shR]
  | w :: r, kept => by
    unfold shR
    have h1 := len_shR r kept
    have h2 := len_shR r (w :: kept)
    simp only [List.length_cons] at h2 ⊢
    split <;> omega
theorem optD_none {α : Type} (f : α → D) (h : ∀ a, isNon (f a) = false) (o : Option α) : isNon (optD f o) = o.isNone := by
  cases o with
  | none => rfl
  | some a => exact h a
theorem shortened_words_ok [H_shortened_words P] (n : Nat) (ws : List (List Str)) (hl : ws.length ≤ 1000) (hw : ∀ o ∈ ws, o.length ≤ 1000) : callF P (n + 3) "shortened_words" [.shr (Ls (T .str) ws)] = .ret (true, Ls (T .str) ((shR ws.reverse []).map lastOnes)) [.emp] := by
  rw [callF_pure H_shortened_words.at_shortened_words _ _ rfl rfl]
  have e1 : sizeLine = 16777216 := by rfl
  simp (config := {contextual := true}) [c_shortened_words, evE_sel, evI_sel, callP, show rngOk ((ws.length : Int) - 1) = true by simp [rngOk]; omega, show rngOk (-1) = true by decide]
  refine seq_for (fun f => endP 1 f = _) (fun pre ρ => ∃ kept s2 s3, ρ = [.shr (Ls (T .str) ws), .shr (Ls (T .str) (ws.take (ws.length - pre.length) ++ kept)), s2, s3, .emp] ∧ shR ws.reverse [] = shR (ws.take (ws.length - pre.length)).reverse kept ∧ kept.length ≤ pre.length ∧ ∀ o ∈ kept, o ∈ ws) ⟨[], .emp, .emp, by simp, by simp, by simp, by simp⟩ ?_ ?_
  · rintro pre x post ρ e ⟨kept, s2, s3, rfl, hs, hk, hm⟩
    obtain ⟨hx, hp⟩ := range_split e
    subst hx
    obtain ⟨k, hk2⟩ : ∃ k, ws.length - pre.length = k + 1 := ⟨ws.length - pre.length - 1, by omega⟩
    have hkl : k < ws.length := by omega
    have ht : ws.take (k + 1) = ws.take k ++ [ws[k]] := by rw [List.take_add_one, List.getElem?_eq_getElem hkl]; rfl
    have ha : ((ws.length : Int) - 1 - (pre.length : Int)) = (k : Int) := by omega
    have hk3 : ws.length - (pre.length + 1) = k := by omega
    rw [hk2, ht] at hs ⊢
    have hlt : (ws.take k).length = k := by simp; omega
    have wk : (ws[k]).length ≤ 1000 := hw _ (List.getElem_mem hkl)
    have wm : ws[k] ∈ ws := List.getElem_mem hkl
    have am : ∀ o ∈ ws.take k, o ∈ ws := fun o ho => List.mem_of_mem_take ho
    have hkt : (ws.take (ws.length - (pre.length + 1))) = ws.take k := by rw [hk3]
    generalize ws.take k = A at *
    generalize ws[k] = w at *
    have c1 : (A ++ w :: kept).take k = A := by rw [← hlt]; simp
    have c2 : (A ++ w :: kept).drop (k + 1) = kept := by
      rw [← hlt, ← List.drop_drop]
      simp
    have c3 : (A ++ w :: kept)[k]? = some w := by rw [← hlt]; simp
    have ol : (A ++ kept).length ≤ 1000 := by rw [List.length_append]; omega
    have om : ∀ o ∈ A ++ kept, o.length ≤ 1000 := fun o ho => by
      rcases List.mem_append.mp ho with q | q
      · exact hw o (am o q)
      · exact hw o (hm o q)
    have ag := all_grounds_ev (P := P) n (A ++ kept) w wk ol om
    have iso := optD_none (Ls (T PyData.str)) (fun _ => rfl) (allG (A ++ kept) w)
    have hkl2 : k + kept.length ≤ sizeLine := by rw [List.length_append] at ol; omega
    have hs2 : shR (A ++ [w]).reverse kept = shR (w :: A.reverse) kept := by simp
    rw [hs2, shR, List.reverse_reverse] at hs
    rw [List.append_assoc, List.singleton_append]
    by_cases q : A ++ kept ≠ [] ∧ (allG (A ++ kept) w).isSome = true
    · rw [if_pos q] at hs
      have q1 : 0 < (A ++ kept).length := List.length_pos_iff.mpr q.1
      rw [List.length_append, hlt] at q1
      have q2 : (allG (A ++ kept) w).isNone = false := by
        cases z : allG (A ++ kept) w with
        | none => rw [z] at q; simp at q
        | some _ => rfl
      refine ⟨_, [.shr (Ls (T .str) ws), .shr (Ls (T .str) (A ++ kept)), .shr (.int k), .shr (Ls (T .str) (A ++ kept)), .emp], rfl, ?_, kept, _, _, by rw [List.length_append, List.length_singleton, hkt], by rw [List.length_append, List.length_singleton, hkt]; exact hs, by simp; omega, hm⟩
      simp [evE_sel, callP, ha, c1, c2, c3, hlt, ag, iso, hkl2, q1, q2]
      intro z
      exfalso
      omega
    · rw [if_neg q] at hs
      refine ⟨_, [.shr (Ls (T .str) ws), .shr (Ls (T .str) (A ++ w :: kept)), .shr (.int k), .shr (Ls (T .str) (A ++ kept)), .emp], rfl, ?_, w :: kept, _, _, by rw [List.length_append, List.length_singleton, hkt], by rw [List.length_append, List.length_singleton, hkt]; exact hs, by simp; omega, fun o ho => (List.mem_cons.mp ho).elim (fun z => z ▸ wm) (hm o)⟩
      by_cases q1 : 0 < k + kept.length
      · have q2 : (allG (A ++ kept) w).isNone = true := by
          cases z : allG (A ++ kept) w with
          | none => rfl
          | some _ => exact absurd ⟨fun y => by rw [List.append_eq_nil_iff] at y; rw [y.1] at hlt; rw [y.2] at q1; simp at hlt q1; omega, by rw [z]; rfl⟩ q
        simp [evE_sel, callP, ha, c1, c2, c3, hlt, ag, iso, hkl2, q1, q2]
      · simp [evE_sel, callP, ha, c1, c2, c3, hlt, ag, iso, hkl2, q1]
        intro z
        exfalso
        omega
  · rintro ρ' ⟨kept, s2, s3, rfl, hs, hk, hm⟩
    simp at hs hk
    have hl2 : kept.length ≤ sizeLine := by omega
    have hm2 : ∀ o ∈ kept, o.length ≤ sizeLine := fun o ho => by have := hw o (hm o ho); omega
    rw [hs]
    simp (config := {contextual := true}) [evE_sel, callP, last_ones_ev, hl2, hm2, shR, L_map]
end LB
end
section
namespace LB
open PySem Mi
variable {P : Prg}
def pool10 : List Str := ["a", "ends", "skipb", "do", "seq", "or", "rep", "gen", "starts", "longname"]
theorem pool10_ok : ∀ x ∈ pool10, okName x := by decide +kernel
def rot {α : Type} (xs : List α) (a : Nat) : List α := xs.drop a ++ xs.take a
theorem mem_rot {α : Type} {xs : List α} {a : Nat} {x : α} (h : x ∈ rot xs a) : x ∈ xs := (List.mem_append.mp h).elim List.mem_of_mem_drop List.mem_of_mem_take
theorem words10_ev [H__law_words_v3 P] (n : Nat) (m : Int) (k : Nat) : ∃ a, a < 10 ∧ callF P (n + 2) "_law_words" [.own (.list [.int m]), .shr (.int k)] = .ret (true, Ls .str ((rot pool10 a).take k)) [.own (.list [.int (m / 10)]), .emp] := by
  refine ⟨(m % 10).toNat, by omega, ?_⟩
  rw [callF_io H__law_words_v3.at__law_words_v3 _ _ rfl]
  have e1 : PyData.list [PyData.str "a", PyData.str "ends", PyData.str "skipb", PyData.str "do", PyData.str "seq", PyData.str "or", PyData.str "rep", PyData.str "gen", PyData.str "starts", PyData.str "longname"] = Ls .str pool10 := rfl
  have e2 : (m % 10) = (((m % 10).toNat : Nat) : Int) := by omega
  have tk := take_ev (P := P) n m 10 (by omega) (by omega)
  rw [e2] at tk
  have ha : (m % 10).toNat < 10 := by omega
  generalize (m % 10).toNat = a at *
  have hl : pool10.length = 10 := rfl
  have hs : 10 - a + min a 10 ≤ sizeLine := by rw [size_eq]; omega
  simp [c__law_words_v3, evE_sel, e1, tk, hl, hs, rot]
  rfl
theorem strs_of {cs : List Str} : ∀ {ys : List D}, (∀ y ∈ ys, ∃ x ∈ cs, y = .str x) → ∃ w : List Str, ys = w.map .str ∧ ∀ x ∈ w, x ∈ cs
  | [], _ => ⟨[], rfl, by simp⟩
  | y :: r, h => by
    obtain ⟨x, hx, rfl⟩ := h y List.mem_cons_self
    obtain ⟨w, rfl, hw⟩ := strs_of fun z hz => h z (List.mem_cons_of_mem _ hz)
    exact ⟨x :: w, rfl, fun z hz => (List.mem_cons.mp hz).elim (fun q => q ▸ hx) (hw z)⟩
theorem word_ev [H__law_word P] (n : Nat) (m : Int) (cs : List Str) (k : Nat) (hc : cs ≠ []) (hcl : cs.length < 1000) (hk : 0 < k) (hk2 : k < 1000) : ∃ w m', callF P (n + 2) "_law_word" [.own (.list [.int m]), .shr (Ls .str cs), .shr (.int k)] = .ret (false, T .str w) [.own (.list [.int m']), .emp, .emp] ∧ w.length < k ∧ ∀ x ∈ w, x ∈ cs := by
  rw [callF_io H__law_word.at__law_word _ _ rfl]
  have tk := take_ev (P := P) n m k (by omega) (by omega)
  have e2 : (m % (k : Int)) = (((m % (k : Int)).toNat : Nat) : Int) := by have := Int.emod_nonneg m (show (k : Int) ≠ 0 by omega); omega
  have ht : (m % (k : Int)).toNat < k := by have := Int.emod_lt_of_pos m (show 0 < (k : Int) by omega); omega
  rw [e2] at tk
  generalize (m % (k : Int)).toNat = t at *
  have cl : 0 < cs.length := List.length_pos_iff.mpr hc
  obtain ⟨ys, m', hb, _, hl, hG⟩ := blk_own (vs := [3]) (tg := .nm 3) (f := oneO { call := callF P (n + 1), sig := sigOf P, mu := [], fx := [0], fuel := 100 } ((CE.var 1).idx (CE.call (Str.ofString "_law_take") [CE.var 0, CE.b1 B1.len (CE.var 1)])))
    (xs := mapE (fun (i : Nat) => PyData.int ↑i) (List.range t)) (fun m : Int => [Slot.own (PyData.list [PyData.int m]), Slot.shr (Ls PyData.str cs), Slot.shr (PyData.int ↑k), Slot.emp]) (fun y => ∃ x ∈ cs, y = .str x) (fun _ => True) (by simp) (by simp)
    (fun x _ m _ => by
      refine ⟨_, rfl, ?_⟩
      have tk := take_ev (P := P) n m cs.length (by omega) (by omega)
      have e2 : (m % (cs.length : Int)) = (((m % (cs.length : Int)).toNat : Nat) : Int) := by have := Int.emod_nonneg m (show (cs.length : Int) ≠ 0 by omega); omega
      have ht : (m % (cs.length : Int)).toNat < cs.length := by have := Int.emod_lt_of_pos m (show 0 < (cs.length : Int) by omega); omega
      rw [e2] at tk
      generalize (m % (cs.length : Int)).toNat = t at *
      refine ⟨.str cs[t], m / cs.length, [Slot.own (PyData.list [PyData.int (m / cs.length)]), Slot.shr (Ls PyData.str cs), Slot.shr (PyData.int ↑k), .shr x], ?_, rfl, trivial, cs[t], List.getElem_mem ht, rfl⟩
      simp [evE_sel, tk, List.getElem?_eq_getElem ht]) (m / k) trivial
  obtain ⟨w, rfl, hw⟩ := strs_of hG
  refine ⟨w, m', ?_, by simp at hl; omega, hw⟩
  have r1 : rngOk (t : Int) = true := by simp [rngOk]; omega
  have r2 : t ≤ sizeLine := by rw [size_eq]; omega
  simp [c__law_word, evE_sel, tk, r1, r2, hb]
  rfl
end LB
end
section
namespace LB
open PySem Mi
variable {P : Prg}
theorem lwithin_ev [H__law_within P] (n : Nat) (a b : List Str) (ha : a.length ≤ sizeLine) : callF P (n + 1) "_law_within" [.shr (T .str a), .shr (T .str b)] = .ret (false, .bool (decide (∀ x ∈ a, x ∈ b))) [.emp, .emp] := by
  rw [callF_pure H__law_within.at__law_within _ _ rfl rfl]
  simp (config := {contextual := true}) [c__law_within, evE_sel, ha]
  rw [Bool.eq_iff_iff]
  simp
theorem sorted_strs {xs : List Str} (nd : xs.Nodup) : b1Op .sorted (Ls .str xs) = some (true, Ls .str (srt .str xs)) := sort_strs nd
theorem ljoined_ev [H__law_joined P] (n : Nat) (a b : List Str) (ha : a.length + b.length ≤ sizeLine) : callF P (n + 1) "_law_joined" [.shr (T .str a), .shr (T .str b)] = .ret (false, T .str (srt .str (a ++ b))) [.emp, .emp] := by
  rw [callF_pure H__law_joined.at__law_joined _ _ rfl rfl]
  have e : srt PyData.str (ded (a ++ b)) = srt PyData.str (a ++ b) := srt_ext fun x => mem_ded x _
  simp (config := {contextual := true}) [c__law_joined, evE_sel, ha, dictD_strs, sorted_strs (nodup_ded _), e]
theorem last_filter {p : Nat → Bool} {m : Nat} (hp : p m = true) : ∀ N, m < N → (∀ i, m < i → i < N → p i = false) → (List.range N).filter p = (List.range m).filter p ++ [m]
  | 0, h, _ => by omega
  | N + 1, h, k => by
    rw [List.range_succ, List.filter_append]
    by_cases q : m = N
    · subst q
      simp [hp]
    · rw [last_filter hp N (by omega) fun i h1 h2 => k i h1 (by omega)]
      have := k N (by omega) (by omega)
      simp [this]
theorem zip_range (a : List Str) (d : Str) : a.zipIdx = (List.range a.length).map fun i => (a.getD i d, i) := by
  apply List.ext_getElem?
  intro i
  rw [List.getElem?_zipIdx, List.getElem?_map]
  by_cases h : i < a.length
  · rw [List.getElem?_range h, List.getElem?_eq_getElem h]
    simp [h]
  · rw [List.getElem?_eq_none (by omega), List.getElem?_eq_none (by simp; omega)]
    rfl
def dS : Str := ⟨#[]⟩
theorem getD_range (a : List Str) : ∀ i, i ∈ List.range a.length → a[i]? = some (a.getD i dS) := fun i hi => by
  have h := List.mem_range.mp hi
  rw [List.getElem?_eq_getElem h]
  simp [h]
theorem last_place' {a : List Str} {x : Str} (h : x ∈ a) : ∃ m : Nat, ((List.range a.length).filter fun i => decide (a.getD i dS = x)) = ((List.range m).filter fun i => decide (a.getD i dS = x)) ++ [m] ∧ a.drop (m + 1) = behind a x := by
  obtain ⟨m, _, h1, h2⟩ := last_place h
  obtain ⟨hm, h3⟩ := List.getElem?_eq_some_iff.mp h1
  refine ⟨m, last_filter (by simp [hm, h3]) _ hm fun i h4 h5 => ?_, behind_at h1 h2⟩
  rw [decide_eq_false_iff_not]
  intro z
  apply h2
  rw [List.mem_iff_getElem?]
  refine ⟨i - (m + 1), ?_⟩
  rw [List.getElem?_drop, show m + 1 + (i - (m + 1)) = i by omega, getD_range a i (List.mem_range.mpr h5), z]
theorem lafter_ev [H__law_after P] (n : Nat) (a : List Str) (x : Str) (ha : a.length ≤ 1000) (hx : x ∈ a) : callF P (n + 2) "_law_after" [.shr (T .str a), .shr (.str x)] = .ret (false, T .str (srt .str (behind a x))) [.emp, .emp] := by
  rw [callF_pure H__law_after.at__law_after _ _ rfl rfl]
  have r1 : rngOk (a.length : Int) = true := by simp [rngOk]; omega
  have r2 : a.length ≤ sizeLine := by rw [size_eq]; omega
  have r3 : (behind a x).length ≤ sizeLine := Nat.le_trans (behind_len x a) r2
  obtain ⟨m, h1, h2⟩ := last_place' hx
  have jn := ljoined_ev (P := P) n (behind a x) [] (by simpa using r3)
  simp only [List.append_nil] at jn
  have jn : callF P (n + 1) "_law_joined" [.shr (T .str (behind a x)), .shr (.tuple [])] = _ := jn
  have hD := getD_range a
  simp (config := {contextual := true}) [-List.mem_range, -List.getD_eq_getElem?_getD, c__law_after, evE_sel, r1, r2, hD, h1, h2, callP, jn]
theorem llast_ev [H__law_last_v2 P] (n : Nat) (a : List Str) (ha : a.length ≤ 1000) : callF P (n + 1) "_law_last" [.shr (T .str a)] = .ret (false, T .str (lastOnes a)) [.emp] := by
  rw [callF_pure H__law_last_v2.at__law_last_v2 _ _ rfl rfl]
  have r1 : rngOk (a.length : Int) = true := by simp [rngOk]; omega
  have r2 : a.length ≤ sizeLine := by rw [size_eq]; omega
  have hD := getD_range a
  simp (config := {contextual := true}) [-List.mem_range, -List.getD_eq_getElem?_getD, c__law_last_v2, evE_sel, r1, r2, hD]
  rw [← last_zip, zip_range a dS, List.filter_map, List.map_map, T_map]
  rfl
end LB
end
section
namespace LB
open PySem Mi
variable {P : Prg}
theorem shortened_ok [H_shortened P] (n : Nat) (ws : List (List Str)) (h : okWords ws) : callF P (n + 5) "shortened" [.shr (Ls (T .str) ws)] = .ret (true, Ls (T .str) ((shR ws.reverse []).map lastOnes)) [.emp] := by
  rw [callF_pure H_shortened.at_shortened _ _ rfl rfl]
  have sw := shortened_words_ok (P := P) (n + 1) ws (by have := h.1.2; omega) fun o ho => Nat.le_trans (h.2.1 o ho).1 (by decide)
  simp [c_shortened, evE_sel, callP, check_words_ok, h, sw]
theorem nodup_sub {α : Type} [DecidableEq α] : ∀ {xs cs : List α}, xs.Nodup → (∀ x ∈ xs, x ∈ cs) → xs.length ≤ cs.length
  | [], cs, _, _ => Nat.zero_le _
  | x :: r, cs, h, k => by
    have h' := List.nodup_cons.mp h
    have hx : x ∈ cs := k x List.mem_cons_self
    have := nodup_sub (xs := r) (cs := cs.erase x) h'.2 fun y hy => (List.mem_erase_of_ne fun z => h'.1 (by rw [← z]; exact hy)).mpr (k y (List.mem_cons_of_mem _ hy))
    have e := List.length_erase_of_mem hx
    have : 0 < cs.length := List.length_pos_of_mem hx
    simp only [List.length_cons]
    omega
theorem ded_sub {xs cs : List Str} (h : ∀ x ∈ xs, x ∈ cs) : (ded xs).length ≤ cs.length := nodup_sub (nodup_ded xs) fun x hx => h x ((mem_ded x xs).mp hx)
theorem words_of {p : List Str → Prop} : ∀ {ys : List D}, (∀ y ∈ ys, ∃ w, y = T .str w ∧ p w) → ∃ ws : List (List Str), ys = ws.map (T .str) ∧ ∀ w ∈ ws, p w
  | [], _ => ⟨[], rfl, by simp⟩
  | y :: r, h => by
    obtain ⟨w, rfl, hw⟩ := h y List.mem_cons_self
    obtain ⟨ws, rfl, hws⟩ := words_of fun z hz => h z (List.mem_cons_of_mem _ hz)
    exact ⟨w :: ws, rfl, fun z hz => (List.mem_cons.mp hz).elim (fun q => q ▸ hw) (hws z)⟩
theorem ne_self (o : Option (List (List Str))) : cmpOp .NotEq (optD (Ls (T .str)) o) (optD (Ls (T .str)) o) = some false := by
  cases o with
  | none => rfl
  | some x => simpa [optD] using ne_enc (e := Ls (T PyData.str)) (by decide) x x
end LB
end
section
namespace K58
open PySem Mi L2
def top (i : Nat) : Stmt := PySem.Challenge.pw_lasttouch_k58_grounds_and_shortened_word.main.body.getD i (.Pass ⟨0, 0, 0, 0⟩)
def cons : List (Str × D) := [("LETTERS", .str "abcdefghijklmnopqrstuvwxyz"), ("LONGEST", .int 8), ("MOST_NAMES", .int 6), ("MOST_ACTIONS", .int 60), ("MOST_WORDS", .int 60)]
def wrs : List (Str × List D) := [("NO_NAMES", [.str "skip", .str "start", .str "end"])]
def r_is_name : RowD := ⟨"is_name", top 10, ["value", "letter"], ["value"], LB.d_is_name⟩
def r_is_word : RowD := ⟨"is_word", top 13, ["value", "name"], ["value"], LB.d_is_word⟩
def r_check_word : RowD := ⟨"check_word", top 14, ["word"], ["word"], LB.d_check_word⟩
def r_contains : RowD := ⟨"contains", top 16, ["one", "other", "name"], ["one", "other"], LB.d_contains⟩
def r_last_ones : RowD := ⟨"last_ones", top 19, ["word", "at", "name"], ["word"], LB.d_last_ones⟩
def r_behind_last : RowD := ⟨"behind_last", top 20, ["word", "name", "at", "other"], ["word", "name"], LB.d_behind_last⟩
def r_all_grounds : RowD := ⟨"all_grounds", top 21, ["words", "word", "found", "name", "rest", "some", "other"], ["words", "word"], LB.d_all_grounds⟩
def r_is_words : RowD := ⟨"is_words", top 22, ["value", "word", "name"], ["value"], LB.d_is_words⟩
def r_check_words : RowD := ⟨"check_words", top 23, ["words"], ["words"], LB.d_check_words⟩
def r_grounds : RowD := ⟨"grounds", top 24, ["words", "word", "other", "name"], ["words", "word"], LB.d_grounds⟩
def r_shortened_words : RowD := ⟨"shortened_words", top 25, ["words", "found", "at", "others", "word"], ["words"], LB.d_shortened_words⟩
def r_shortened : RowD := ⟨"shortened", top 26, ["words"], ["words"], LB.d_shortened⟩
def r__law_mixed : RowD := ⟨"_law_mixed", top 28, ["cell", "k", "mix"], ["cell", "k"], LB.d__law_mixed⟩
def r__law_cell : RowD := ⟨"_law_cell", top 29, ["script", "k", "cell", "found", "j"], ["script", "k"], LB.d__law_cell⟩
def r__law_take : RowD := ⟨"_law_take", top 30, ["own", "options", "digit"], ["own", "options"], LB.d__law_take⟩
def r__law_words : RowD := ⟨"_law_words", top 31, ["own", "many", "some", "at"], ["own", "many"], LB.d__law_words_v3⟩
def r__law_within : RowD := ⟨"_law_within", top 32, ["one", "other", "name"], ["one", "other"], LB.d__law_within⟩
def r__law_joined : RowD := ⟨"_law_joined", top 33, ["one", "two", "name"], ["one", "two"], LB.d__law_joined⟩
def r__law_after : RowD := ⟨"_law_after", top 34, ["word", "name", "at", "k"], ["word", "name"], LB.d__law_after⟩
def r__law_last : RowD := ⟨"_law_last", top 35, ["word", "at"], ["word"], LB.d__law_last_v2⟩
def c__law_grounds : List CS := [.asg 2 (.lst [.lcf [5] (.var 5) (.nm 5) (.var 0) (.call "_law_within" [.var 5, .var 1])]), .for (.nm 3) (.call "_law_last" [.var 1]) [.asg 4 (.call "_law_after" [.var 1, .var 3]), .app 2 (.lcf [5] (.var 5) (.nm 5) (.var 0) (.and (.isin false (.var 3) (.var 5)) (.call "_law_within" [.call "_law_after" [.var 5, .var 3], .var 4])))], .ret (.ite (.b1 .all (.lc [6] (.cmp .NotEq (.var 6) (.lst [])) (.nm 6) (.var 2))) (.lc [6] (.idx (.var 6) (.cst (.int 0))) (.nm 6) (.var 2)) (.cst (.none)))]
def d__law_grounds : Df := ⟨2, 7, [], [2], 100, c__law_grounds⟩
def r__law_grounds : RowD := ⟨"_law_grounds", top 36, ["some", "word", "due", "name", "behind", "one", "row"], ["some", "word"], d__law_grounds⟩
def c__law_shortened : List CS := [.asg 1 (.lrng (.b1 .len (.var 0))), .for (.nm 2) (.rng1 (.b1 .len (.var 0))) [.asg 3 (.bin .Sub (.bin .Sub (.b1 .len (.var 0)) (.var 2)) (.cst (.int 1))), .asg 4 (.lcf [5] (.idx (.var 0) (.var 5)) (.nm 5) (.var 1) (.cmp .NotEq (.var 5) (.var 3))), .ite (.and (.cmp .NotEq (.var 4) (.lst [])) (.isn true (.call "_law_grounds" [.var 4, .idx (.var 0) (.var 3)]))) [.asg 1 (.lcf [5] (.var 5) (.nm 5) (.var 1) (.cmp .NotEq (.var 5) (.var 3)))] []], .ret (.lc [3] (.call "_law_last" [.idx (.var 0) (.var 3)]) (.nm 3) (.var 1))]
def d__law_shortened : Df := ⟨1, 6, [], [], 100, c__law_shortened⟩
def r__law_shortened : RowD := ⟨"_law_shortened", top 37, ["some", "left", "k", "at", "others", "spot"], ["some"], d__law_shortened⟩
def r__law_word : RowD := ⟨"_law_word", top 38, ["own", "called", "most", "k"], ["own", "called", "most"], LB.d__law_word⟩
def c__law_good : List CS := [.asg 3 (.b1 .list (.var 1)), .asg 4 (.bin .Add (.bin .Add (.var 1) (.lc [7] (.call "_law_word" [.var 0, .var 2, .cst (.int 6)]) (.nm 7) (.rng1 (.cst (.int 4))))) (.lst [.bin .Add (.idx (.var 1) (.cst (.int 0))) (.idx (.var 1) (.neg (.cst (.int 1)))), .bin .Add (.idx (.var 1) (.neg (.cst (.int 1)))) (.idx (.var 1) (.cst (.int 0))), .tup []])), .for (.nm 5) (.var 4) [.ite (.or (.cmp .NotEq (.call "grounds" [.var 1, .var 5]) (.call "_law_grounds" [.var 1, .var 5])) (.cmp .NotEq (.var 1) (.var 3))) [.ret (.cst (.bool false))] []], .asg 6 (.call "shortened" [.var 1]), .ite (.or (.cmp .NotEq (.var 6) (.call "_law_shortened" [.var 1])) (.cmp .NotEq (.var 1) (.var 3))) [.ret (.cst (.bool false))] [], .app 6 (.cst (.none)), .ret (.cmp .Eq (.call "shortened" [.var 1]) (.call "_law_shortened" [.var 1]))]
def d__law_good : Df := ⟨3, 8, [0], [6], 100, c__law_good⟩
def r__law_good : RowD := ⟨"_law_good", top 39, ["own", "some", "called", "kept", "words_here", "word", "found", "k"], ["own", "some", "called"], d__law_good⟩
def c_law : List CS := [.for (.nm 1) (.rng1 (.b2 .max (.b2 .min (.b1 .len (.var 0)) (.cst (.int 5))) (.cst (.int 1)))) [.for (.nm 4) (.rng1 (.cst (.int 3))) [.asg 5 (.lst [.call "_law_cell" [.var 0, .bin .Add (.bin .Mult (.var 1) (.cst (.int 3))) (.var 4)]]), .asg 6 (.call "_law_words" [.var 5, .bin .Add (.cst (.int 2)) (.call "_law_take" [.var 5, .cst (.int 3)])]), .ite (.not (.call "_law_good" [.var 5, .lc [7] (.call "_law_word" [.var 5, .var 6, .cst (.int 8)]) (.nm 7) (.rng1 (.bin .Add (.cst (.int 1)) (.call "_law_take" [.var 5, .cst (.int 8)]))), .var 6])) [.ret (.cst (.bool false))] []]], .asg 2 (.bin .Add (.bin .Add (.bin .Mult (.tup [.cst (.str "a")]) (.cst (.int 30))) (.bin .Mult (.tup [.cst (.str "b")]) (.cst (.int 29)))) (.tup [.cst (.str "a")])), .asg 3 (.bin .Add (.lc [4] (.bin .Add (.bin .Mult (.tup [.cst (.str "a")]) (.var 4)) (.tup [.cst (.str "b")])) (.nm 4) (.rng1 (.cst (.int 59)))) (.lst [.var 2])), .ite (.or (.cmp .NotEq (.call "grounds" [.var 3, .var 2]) (.lst [.tup [.cst (.str "b")], .tup [.cst (.str "b")], .var 2])) (.cmp .NotEq (.call "shortened" [.var 3]) (.lst [.tup [.cst (.str "b")], .tup [.cst (.str "b"), .cst (.str "a")]]))) [.ret (.cst (.bool false))] [], .ite (.or (.cmp .NotEq (.call "shortened" [.lst [.tup [], .tup []]]) (.lst [.tup []])) (.or (.cmp .NotEq (.call "grounds" [.lst [.tup []], .tup []]) (.lst [.tup []])) (.isn true (.call "grounds" [.lst [.tup [.cst (.str "a")]], .tup []])))) [.ret (.cst (.bool false))] [], .ret (.cmp .Eq (.call "grounds" [.lst [.tup [.cst (.str "c"), .cst (.str "b")], .tup [.cst (.str "d"), .cst (.str "a")], .tup [.cst (.str "a"), .cst (.str "b")]], .tup [.cst (.str "a"), .cst (.str "b")]]) (.lst [.tup [.cst (.str "a"), .cst (.str "b")], .tup [.cst (.str "d"), .cst (.str "a")], .tup [.cst (.str "c"), .cst (.str "b")]]))]
def d_law : Df := ⟨1, 8, [], [5], 100, c_law⟩
def r_law : RowD := ⟨"law", top 40, ["script", "turn", "long", "many", "k", "own", "called", "j"], ["script"], d_law⟩
def rows : List RowD := [r_is_name, r_is_word, r_check_word, r_contains, r_last_ones, r_behind_last, r_all_grounds, r_is_words, r_check_words, r_grounds, r_shortened_words, r_shortened, r__law_mixed, r__law_cell, r__law_take, r__law_words, r__law_within, r__law_joined, r__law_after, r__law_last, r__law_grounds, r__law_shortened, r__law_word, r__law_good, r_law]
set_option maxRecDepth 1000000 in
theorem ok_is_name : RowOk (funsOf rows) cons wrs r_is_name := ⟨⟨rfl, rfl, rfl, by decide +kernel, rfl, by decide +kernel, by decide +kernel⟩, rfl, rfl, by kernel_rfl⟩
set_option maxRecDepth 1000000 in
theorem ok_is_word : RowOk (funsOf rows) cons wrs r_is_word := ⟨⟨rfl, rfl, rfl, by decide +kernel, rfl, by decide +kernel, by decide +kernel⟩, rfl, rfl, by kernel_rfl⟩
set_option maxRecDepth 1000000 in
theorem ok_check_word : RowOk (funsOf rows) cons wrs r_check_word := ⟨⟨rfl, rfl, rfl, by decide +kernel, rfl, by decide +kernel, by decide +kernel⟩, rfl, rfl, by kernel_rfl⟩
set_option maxRecDepth 1000000 in
theorem ok_contains : RowOk (funsOf rows) cons wrs r_contains := ⟨⟨rfl, rfl, rfl, by decide +kernel, rfl, by decide +kernel, by decide +kernel⟩, rfl, rfl, by kernel_rfl⟩
set_option maxRecDepth 1000000 in
theorem ok_last_ones : RowOk (funsOf rows) cons wrs r_last_ones := ⟨⟨rfl, rfl, rfl, by decide +kernel, rfl, by decide +kernel, by decide +kernel⟩, rfl, rfl, by kernel_rfl⟩
set_option maxRecDepth 1000000 in
theorem ok_behind_last : RowOk (funsOf rows) cons wrs r_behind_last := ⟨⟨rfl, rfl, rfl, by decide +kernel, rfl, by decide +kernel, by decide +kernel⟩, rfl, rfl, by kernel_rfl⟩
set_option maxRecDepth 1000000 in
theorem ok_all_grounds : RowOk (funsOf rows) cons wrs r_all_grounds := ⟨⟨rfl, rfl, rfl, by decide +kernel, rfl, by decide +kernel, by decide +kernel⟩, rfl, rfl, by kernel_rfl⟩
set_option maxRecDepth 1000000 in
theorem ok_is_words : RowOk (funsOf rows) cons wrs r_is_words := ⟨⟨rfl, rfl, rfl, by decide +kernel, rfl, by decide +kernel, by decide +kernel⟩, rfl, rfl, by kernel_rfl⟩
set_option maxRecDepth 1000000 in
theorem ok_check_words : RowOk (funsOf rows) cons wrs r_check_words := ⟨⟨rfl, rfl, rfl, by decide +kernel, rfl, by decide +kernel, by decide +kernel⟩, rfl, rfl, by kernel_rfl⟩
set_option maxRecDepth 1000000 in
theorem ok_grounds : RowOk (funsOf rows) cons wrs r_grounds := ⟨⟨rfl, rfl, rfl, by decide +kernel, rfl, by decide +kernel, by decide +kernel⟩, rfl, rfl, by kernel_rfl⟩
set_option maxRecDepth 1000000 in
theorem ok_shortened_words : RowOk (funsOf rows) cons wrs r_shortened_words := ⟨⟨rfl, rfl, rfl, by decide +kernel, rfl, by decide +kernel, by decide +kernel⟩, rfl, rfl, by kernel_rfl⟩
set_option maxRecDepth 1000000 in
theorem ok_shortened : RowOk (funsOf rows) cons wrs r_shortened := ⟨⟨rfl, rfl, rfl, by decide +kernel, rfl, by decide +kernel, by decide +kernel⟩, rfl, rfl, by kernel_rfl⟩
set_option maxRecDepth 1000000 in
theorem ok__law_mixed : RowOk (funsOf rows) cons wrs r__law_mixed := ⟨⟨rfl, rfl, rfl, by decide +kernel, rfl, by decide +kernel, by decide +kernel⟩, rfl, rfl, by kernel_rfl⟩
set_option maxRecDepth 1000000 in
theorem ok__law_cell : RowOk (funsOf rows) cons wrs r__law_cell := ⟨⟨rfl, rfl, rfl, by decide +kernel, rfl, by decide +kernel, by decide +kernel⟩, rfl, rfl, by kernel_rfl⟩
set_option maxRecDepth 1000000 in
theorem ok__law_take : RowOk (funsOf rows) cons wrs r__law_take := ⟨⟨rfl, rfl, rfl, by decide +kernel, rfl, by decide +kernel, by decide +kernel⟩, rfl, rfl, by kernel_rfl⟩
set_option maxRecDepth 1000000 in
theorem ok__law_words : RowOk (funsOf rows) cons wrs r__law_words := ⟨⟨rfl, rfl, rfl, by decide +kernel, rfl, by decide +kernel, by decide +kernel⟩, rfl, rfl, by kernel_rfl⟩
set_option maxRecDepth 1000000 in
theorem ok__law_within : RowOk (funsOf rows) cons wrs r__law_within := ⟨⟨rfl, rfl, rfl, by decide +kernel, rfl, by decide +kernel, by decide +kernel⟩, rfl, rfl, by kernel_rfl⟩
set_option maxRecDepth 1000000 in
theorem ok__law_joined : RowOk (funsOf rows) cons wrs r__law_joined := ⟨⟨rfl, rfl, rfl, by decide +kernel, rfl, by decide +kernel, by decide +kernel⟩, rfl, rfl, by kernel_rfl⟩
set_option maxRecDepth 1000000 in
theorem ok__law_after : RowOk (funsOf rows) cons wrs r__law_after := ⟨⟨rfl, rfl, rfl, by decide +kernel, rfl, by decide +kernel, by decide +kernel⟩, rfl, rfl, by kernel_rfl⟩
set_option maxRecDepth 1000000 in
theorem ok__law_last : RowOk (funsOf rows) cons wrs r__law_last := ⟨⟨rfl, rfl, rfl, by decide +kernel, rfl, by decide +kernel, by decide +kernel⟩, rfl, rfl, by kernel_rfl⟩
set_option maxRecDepth 1000000 in
theorem ok__law_grounds : RowOk (funsOf rows) cons wrs r__law_grounds := ⟨⟨rfl, rfl, rfl, by decide +kernel, rfl, by decide +kernel, by decide +kernel⟩, rfl, rfl, by kernel_rfl⟩
set_option maxRecDepth 1000000 in
theorem ok__law_shortened : RowOk (funsOf rows) cons wrs r__law_shortened := ⟨⟨rfl, rfl, rfl, by decide +kernel, rfl, by decide +kernel, by decide +kernel⟩, rfl, rfl, by kernel_rfl⟩
set_option maxRecDepth 1000000 in
theorem ok__law_word : RowOk (funsOf rows) cons wrs r__law_word := ⟨⟨rfl, rfl, rfl, by decide +kernel, rfl, by decide +kernel, by decide +kernel⟩, rfl, rfl, by kernel_rfl⟩
set_option maxRecDepth 1000000 in
theorem ok__law_good : RowOk (funsOf rows) cons wrs r__law_good := ⟨⟨rfl, rfl, rfl, by decide +kernel, rfl, by decide +kernel, by decide +kernel⟩, rfl, rfl, by kernel_rfl⟩
set_option maxRecDepth 1000000 in
theorem ok_law : RowOk (funsOf rows) cons wrs r_law := ⟨⟨rfl, rfl, rfl, by decide +kernel, rfl, by decide +kernel, by decide +kernel⟩, rfl, rfl, by kernel_rfl⟩
theorem oks : ∀ r ∈ rows, RowOk (funsOf rows) cons wrs r := ac ok_is_name (ac ok_is_word (ac ok_check_word (ac ok_contains (ac ok_last_ones (ac ok_behind_last (ac ok_all_grounds (ac ok_is_words (ac ok_check_words (ac ok_grounds (ac ok_shortened_words (ac ok_shortened (ac ok__law_mixed (ac ok__law_cell (ac ok__law_take (ac ok__law_words (ac ok__law_within (ac ok__law_joined (ac ok__law_after (ac ok__law_last (ac ok__law_grounds (ac ok__law_shortened (ac ok__law_word (ac ok__law_good (ac ok_law (an)))))))))))))))))))))))))
theorem T1 {K : PySem.W.Frag} {mg : Str → Option Value} (c0 : CK K mg "LETTERS" (.str "abcdefghijklmnopqrstuvwxyz")) (c1 : CK K mg "LONGEST" (.int 8)) (c2 : CK K mg "MOST_NAMES" (.int 6)) (c3 : CK K mg "MOST_ACTIONS" (.int 60)) (c4 : CK K mg "MOST_WORDS" (.int 60)) : ∀ x d, cons.lookup x = some d → CK K mg x d := lookup_all (P := CK K mg) (l := cons) (ac (P := fun p : Str × D => CK K mg p.1 p.2) c0 (ac (P := fun p : Str × D => CK K mg p.1 p.2) c1 (ac (P := fun p : Str × D => CK K mg p.1 p.2) c2 (ac (P := fun p : Str × D => CK K mg p.1 p.2) c3 (ac (P := fun p : Str × D => CK K mg p.1 p.2) c4 (an))))))
theorem T2 {K : PySem.W.Frag} {mg : Str → Option Value} (c0 : WK K mg "NO_NAMES" [.str "skip", .str "start", .str "end"]) : ∀ x d, wrs.lookup x = some d → WK K mg x d := lookup_all (P := WK K mg) (l := wrs) (ac (P := fun p : Str × List D => WK K mg p.1 p.2) c0 (an))
theorem rks {K : PySem.W.Frag} {mg : Str → Option Value} (k0 : RowK K mg r_is_name) (k1 : RowK K mg r_is_word) (k2 : RowK K mg r_check_word) (k3 : RowK K mg r_contains) (k4 : RowK K mg r_last_ones) (k5 : RowK K mg r_behind_last) (k6 : RowK K mg r_all_grounds) (k7 : RowK K mg r_is_words) (k8 : RowK K mg r_check_words) (k9 : RowK K mg r_grounds) (k10 : RowK K mg r_shortened_words) (k11 : RowK K mg r_shortened) (k12 : RowK K mg r__law_mixed) (k13 : RowK K mg r__law_cell) (k14 : RowK K mg r__law_take) (k15 : RowK K mg r__law_words) (k16 : RowK K mg r__law_within) (k17 : RowK K mg r__law_joined) (k18 : RowK K mg r__law_after) (k19 : RowK K mg r__law_last) (k20 : RowK K mg r__law_grounds) (k21 : RowK K mg r__law_shortened) (k22 : RowK K mg r__law_word) (k23 : RowK K mg r__law_good) (k24 : RowK K mg r_law) : ∀ r ∈ rows, RowK K mg r := ac (P := RowK K mg) k0 (ac (P := RowK K mg) k1 (ac (P := RowK K mg) k2 (ac (P := RowK K mg) k3 (ac (P := RowK K mg) k4 (ac (P := RowK K mg) k5 (ac (P := RowK K mg) k6 (ac (P := RowK K mg) k7 (ac (P := RowK K mg) k8 (ac (P := RowK K mg) k9 (ac (P := RowK K mg) k10 (ac (P := RowK K mg) k11 (ac (P := RowK K mg) k12 (ac (P := RowK K mg) k13 (ac (P := RowK K mg) k14 (ac (P := RowK K mg) k15 (ac (P := RowK K mg) k16 (ac (P := RowK K mg) k17 (ac (P := RowK K mg) k18 (ac (P := RowK K mg) k19 (ac (P := RowK K mg) k20 (ac (P := RowK K mg) k21 (ac (P := RowK K mg) k22 (ac (P := RowK K mg) k23 (ac (P := RowK K mg) k24 (an)))))))))))))))))))))))))
theorem law_mem : r_law ∈ rows := by unfold rows; simp only [List.mem_cons, true_or, or_true]
theorem law_at : (prgOf rows).lookup ("law" : Str) = some d_law := by kernel_rfl
abbrev prg : Prg := prgOf rows
theorem at_is_name : prg.lookup ("is_name" : Str) = some LB.d_is_name := by kernel_rfl
instance : LB.H_is_name prg := { at_is_name := at_is_name }
theorem at_is_word : prg.lookup ("is_word" : Str) = some LB.d_is_word := by kernel_rfl
instance : LB.H_is_word prg := { at_is_word := at_is_word }
theorem at_check_word : prg.lookup ("check_word" : Str) = some LB.d_check_word := by kernel_rfl
instance : LB.H_check_word prg := { at_check_word := at_check_word }
theorem at_contains : prg.lookup ("contains" : Str) = some LB.d_contains := by kernel_rfl
instance : LB.H_contains prg := { at_contains := at_contains }
theorem at_last_ones : prg.lookup ("last_ones" : Str) = some LB.d_last_ones := by kernel_rfl
instance : LB.H_last_ones prg := { at_last_ones := at_last_ones }
theorem at_behind_last : prg.lookup ("behind_last" : Str) = some LB.d_behind_last := by kernel_rfl
instance : LB.H_behind_last prg := { at_behind_last := at_behind_last }
theorem at_all_grounds : prg.lookup ("all_grounds" : Str) = some LB.d_all_grounds := by kernel_rfl
instance : LB.H_all_grounds prg := { at_all_grounds := at_all_grounds }
theorem at_is_words : prg.lookup ("is_words" : Str) = some LB.d_is_words := by kernel_rfl
instance : LB.H_is_words prg := { at_is_words := at_is_words }
theorem at_check_words : prg.lookup ("check_words" : Str) = some LB.d_check_words := by kernel_rfl
instance : LB.H_check_words prg := { at_check_words := at_check_words }
theorem at_grounds : prg.lookup ("grounds" : Str) = some LB.d_grounds := by kernel_rfl
instance : LB.H_grounds prg := { at_grounds := at_grounds }
theorem at_shortened_words : prg.lookup ("shortened_words" : Str) = some LB.d_shortened_words := by kernel_rfl
instance : LB.H_shortened_words prg := { at_shortened_words := at_shortened_words }
theorem at_shortened : prg.lookup ("shortened" : Str) = some LB.d_shortened := by kernel_rfl
instance : LB.H_shortened prg := { at_shortened := at_shortened }
theorem at__law_mixed : prg.lookup ("_law_mixed" : Str) = some LB.d__law_mixed := by kernel_rfl
instance : LB.H__law_mixed prg := { at__law_mixed := at__law_mixed }
theorem at__law_cell : prg.lookup ("_law_cell" : Str) = some LB.d__law_cell := by kernel_rfl
instance : LB.H__law_cell prg := { at__law_cell := at__law_cell }
theorem at__law_take : prg.lookup ("_law_take" : Str) = some LB.d__law_take := by kernel_rfl
instance : LB.H__law_take prg := { at__law_take := at__law_take }
theorem at__law_words : prg.lookup ("_law_words" : Str) = some LB.d__law_words_v3 := by kernel_rfl
instance : LB.H__law_words_v3 prg := { at__law_words_v3 := at__law_words }
theorem at__law_within : prg.lookup ("_law_within" : Str) = some LB.d__law_within := by kernel_rfl
instance : LB.H__law_within prg := { at__law_within := at__law_within }
theorem at__law_joined : prg.lookup ("_law_joined" : Str) = some LB.d__law_joined := by kernel_rfl
instance : LB.H__law_joined prg := { at__law_joined := at__law_joined }
theorem at__law_after : prg.lookup ("_law_after" : Str) = some LB.d__law_after := by kernel_rfl
instance : LB.H__law_after prg := { at__law_after := at__law_after }
theorem at__law_last : prg.lookup ("_law_last" : Str) = some LB.d__law_last_v2 := by kernel_rfl
instance : LB.H__law_last_v2 prg := { at__law_last_v2 := at__law_last }
theorem at__law_grounds : prg.lookup ("_law_grounds" : Str) = some d__law_grounds := by kernel_rfl
@[simp] theorem sig__law_grounds : sigOf prg ("_law_grounds" : Str) = [] := by rw [sigOf, at__law_grounds]; rfl
theorem at__law_shortened : prg.lookup ("_law_shortened" : Str) = some d__law_shortened := by kernel_rfl
@[simp] theorem sig__law_shortened : sigOf prg ("_law_shortened" : Str) = [] := by rw [sigOf, at__law_shortened]; rfl
theorem at__law_word : prg.lookup ("_law_word" : Str) = some LB.d__law_word := by kernel_rfl
instance : LB.H__law_word prg := { at__law_word := at__law_word }
theorem at__law_good : prg.lookup ("_law_good" : Str) = some d__law_good := by kernel_rfl
@[simp] theorem sig__law_good : sigOf prg ("_law_good" : Str) = [0] := by rw [sigOf, at__law_good]; rfl
theorem at_law : prg.lookup ("law" : Str) = some d_law := by kernel_rfl
@[simp] theorem sig_law : sigOf prg ("law" : Str) = [] := by rw [sigOf, at_law]; rfl
end K58
end
section
namespace K58
open PySem Mi LB
theorem lgrounds_ev (n : Nat) (ws : List (List Str)) (w : List Str) (hw : w.length ≤ 1000) (hws : ws.length ≤ 1000) (hw1 : ∀ o ∈ ws, o.length ≤ 1000) :
    callF prg (n + 3) "_law_grounds" [.shr (Ls (T .str) ws), .shr (T .str w)] = .ret ((allG ws w).isSome, optD (Ls (T .str)) (allG ws w)) [.emp, .emp] := by
  rw [callF_pure at__law_grounds _ _ rfl rfl]
  have e1 : sizeLine = 16777216 := by rfl
  have hw' : w.length ≤ sizeLine := by omega
  have hws' : ws.length ≤ sizeLine := by omega
  have hw1' : ∀ o ∈ ws, o.length ≤ sizeLine := fun o ho => by have := hw1 o ho; omega
  have hb : ∀ o ∈ ws, ∀ x, (srt .str (behind o x)).length ≤ sizeLine := fun o ho x => Nat.le_trans (srt_len _) (Nat.le_trans (behind_len x o) (hw1' o ho))
  simp (config := {contextual := true}) [c__law_grounds, evE_sel, evI_sel, hws', callP, lwithin_ev, llast_ev, hw, hw1']
  refine seq_for (fun f => endP 2 f = _) (fun pre ρ => ∃ s3 s4, ρ = [.shr (Ls (T .str) ws), .shr (T .str w), .own (.list (Ls (T .str) (ws.filter (insideW w)) :: pre.map fun x => Ls (T .str) (ws.filter (showsW w x)))), s3, s4, .emp, .emp]) ⟨.emp, .emp, by unfold insideW; rfl⟩ ?_ ?_
  · rintro pre x post ρ e ⟨s3, s4, rfl⟩
    have hx' : x ∈ w := (mem_lastOnes x w).mp (by rw [e]; simp)
    have hl : pre.length + 1 < sizeLine := by
      have := lastOnes_len w
      rw [e] at this
      simp at this
      omega
    simp (config := {contextual := true}) [evE_sel, callP, lwithin_ev, lafter_ev, hw, hws', hw1, hw1', hb, hx', hl]
    unfold showsW
    simp
  · rintro ρ' ⟨s3, s4, rfl⟩
    have e2 : PyData.list (Ls (T .str) (ws.filter (insideW w)) :: (lastOnes w).map fun x => Ls (T .str) (ws.filter (showsW w x))) = Ls (Ls (T .str)) (rowsG ws w) := by
      unfold rowsG
      show _ = PyData.list (List.map _ (_ :: List.map _ _))
      rw [List.map_cons, List.map_map]
      rfl
    have hl : (rowsG ws w).length ≤ sizeLine := by
      have := lastOnes_len w
      simp [rowsG]
      omega
    rw [e2]
    have nil : ∀ r : List (List Str), cmpOp .NotEq (Ls (T .str) r) (.list []) = some (decide (r ≠ [])) := fun r => ne_enc (e := Ls (T PyData.str)) (by decide) r []
    by_cases hn : [] ∈ rowsG ws w
    · simp (config := {contextual := true}) [evE_sel, hl, hn, nil, allG, optD]
      exact fun z => absurd rfl (z [] hn)
    · have hh : ∀ x ∈ rowsG ws w, x[0]? = some (x.headD []) := fun x hx => by
        cases x with
        | nil => exact absurd hx hn
        | cons a r => rfl
      simp (config := {contextual := true}) [evE_sel, hl, hn, hh, nil, allG, optD, L_map]
theorem lshort_ev (n : Nat) (ws : List (List Str)) (hl : ws.length ≤ 1000) (hw : ∀ o ∈ ws, o.length ≤ 1000) : callF prg (n + 4) "_law_shortened" [.shr (Ls (T .str) ws)] = .ret (true, Ls (T .str) ((shR ws.reverse []).map lastOnes)) [.emp] := by
  rw [callF_pure at__law_shortened _ _ rfl rfl]
  have e1 : sizeLine = 16777216 := by rfl
  have r1 : rngOk (ws.length : Int) = true := by simp [rngOk]; omega
  have r2 : ws.length ≤ sizeLine := by omega
  simp (config := {contextual := true}) [c__law_shortened, evE_sel, evI_sel, callP, r1, r2]
  refine seq_for (fun f => endP 1 f = _) (fun pre ρ => ∃ K s2 s3 s4, ρ = [.shr (Ls (T .str) ws), .shr (Ls (fun (j : Nat) => PyData.int ↑j) (List.range (ws.length - pre.length) ++ K)), s2, s3, s4, .emp] ∧ shR ws.reverse [] = shR (ws.take (ws.length - pre.length)).reverse (K.map fun i => ws.getD i []) ∧ K.length ≤ pre.length ∧ ∀ i ∈ K, ws.length - pre.length ≤ i ∧ i < ws.length) ⟨[], .emp, .emp, .emp, by simp, by simp, by simp, by simp⟩ ?_ ?_
  · rintro pre x post ρ e ⟨K, s2, s3, s4, rfl, hs, hk, hm⟩
    obtain ⟨hx, hp⟩ := range_split e
    subst hx
    obtain ⟨k, hk2⟩ : ∃ k, ws.length - pre.length = k + 1 := ⟨ws.length - pre.length - 1, by omega⟩
    have hkl : k < ws.length := by omega
    have ha : ((ws.length : Int) - (pre.length : Int) - 1) = (k : Int) := by omega
    have hk3 : ws.length - (pre.length + 1) = k := by omega
    rw [hk2] at hs hm ⊢
    have ht : ws.take (k + 1) = ws.take k ++ [ws[k]] := by rw [List.take_add_one, List.getElem?_eq_getElem hkl]; rfl
    rw [ht] at hs
    have hs2 : ∀ kept, shR (ws.take k ++ [ws[k]]).reverse kept = shR (ws[k] :: (ws.take k).reverse) kept := fun kept => by rw [List.reverse_append]; rfl
    rw [hs2, shR, List.reverse_reverse] at hs
    have hL : (List.range (k + 1) ++ K).filter (fun j : Nat => !decide ((j : Int) = (k : Int))) = List.range k ++ K := by
      rw [List.range_succ, List.filter_append, List.filter_append]
      have h1 : (List.range k).filter (fun j : Nat => !decide ((j : Int) = (k : Int))) = List.range k := List.filter_eq_self.mpr fun j hj => by have := List.mem_range.mp hj; simp; omega
      have h2 : K.filter (fun j : Nat => !decide ((j : Int) = (k : Int))) = K := List.filter_eq_self.mpr fun j hj => by have := (hm j hj).1; simp; omega
      rw [h1, h2]
      simp
    have hD : ∀ i, i ∈ List.range (k + 1) ++ K → ws[i]? = some (ws.getD i []) := fun i hi => by
      have h : i < ws.length := by
        rcases List.mem_append.mp hi with q | q
        · have := List.mem_range.mp q; omega
        · exact (hm i q).2
      rw [List.getElem?_eq_getElem h]
      simp [h]
    have hO : Ls (fun i => T PyData.str (ws.getD i [])) (List.range k ++ K) = Ls (T .str) (ws.take k ++ K.map fun i => ws.getD i []) := by
      have lm := L_map (T PyData.str) (fun i => ws.getD i []) (List.range k ++ K)
      refine lm.symm.trans (congrArg (Ls (T PyData.str)) ?_)
      refine List.map_append.trans (congrArg (fun z => z ++ K.map fun i => ws.getD i []) ?_)
      apply List.ext_getElem?
      intro i
      rw [List.getElem?_map, List.getElem?_take]
      by_cases q : i < k
      · rw [List.getElem?_range q, if_pos q, List.getElem?_eq_getElem (by omega)]
        simp [show i < ws.length by omega]
      · rw [List.getElem?_eq_none (by simp; omega), if_neg q]
        rfl
    have hlen : (List.range (k + 1) ++ K).length ≤ sizeLine := by simp; omega
    have c3 : ws[k]? = some ws[k] := List.getElem?_eq_getElem hkl
    have wk : (ws[k]).length ≤ 1000 := hw _ (List.getElem_mem hkl)
    have ol : (ws.take k ++ K.map fun i => ws.getD i []).length ≤ 1000 := by simp; omega
    have om : ∀ o ∈ ws.take k ++ K.map fun i => ws.getD i [], o.length ≤ 1000 := fun o ho => by
      rcases List.mem_append.mp ho with q | q
      · exact hw o (List.mem_of_mem_take q)
      · obtain ⟨i, hi, rfl⟩ := List.mem_map.mp q
        have h := (hm i hi).2
        have : ws.getD i [] = ws[i] := by simp [h]
        rw [this]
        exact hw _ (List.getElem_mem h)
    have hkd : ws.getD k [] = ws[k] := by simp [hkl]
    have ag := lgrounds_ev n (ws.take k ++ K.map fun i => ws.getD i []) ws[k] wk ol om
    have iso := optD_none (Ls (T PyData.str)) (fun _ => rfl) (allG (ws.take k ++ K.map fun i => ws.getD i []) ws[k])
    have nil : ∀ r : List (List Str), cmpOp .NotEq (Ls (T .str) r) (.list []) = some (decide (r ≠ [])) := fun r => ne_enc (e := Ls (T PyData.str)) (by decide) r []
    generalize hkept : (ws.take k ++ K.map fun i => ws.getD i []) = oth at *
    have fin : ∀ s2 s3 s4 : Mi.Slot, (oth ≠ [] ∧ (allG oth ws[k]).isSome = true → True) := fun _ _ _ _ => trivial
    by_cases q : oth ≠ [] ∧ (allG oth ws[k]).isSome = true
    · rw [if_pos q] at hs
      have q2 : (allG oth ws[k]).isNone = false := by
        cases z : allG oth ws[k] with
        | none => rw [z] at q; simp at q
        | some _ => rfl
      refine ⟨_, [.shr (Ls (T .str) ws), .shr (Ls (fun (j : Nat) => PyData.int ↑j) (List.range k ++ K)), .shr (.int ↑pre.length), .shr (.int k), .shr (Ls (T .str) oth), .emp], rfl, ?_, K, _, _, _, by rw [List.length_append, List.length_singleton, hk3], by rw [List.length_append, List.length_singleton, hk3]; exact hs, by simp; omega, fun i hi => by rw [List.length_append, List.length_singleton, hk3]; have := hm i hi; omega⟩
      simp (config := {contextual := true}) [-List.mem_append, -List.length_append, -List.filter_append, -List.getD_eq_getElem?_getD, evE_sel, callP, ha, hL, hD, hO, hlen, c3, ag, iso, nil, q.1, q2]
    · rw [if_neg q] at hs
      refine ⟨_, [.shr (Ls (T .str) ws), .shr (Ls (fun (j : Nat) => PyData.int ↑j) (List.range (k + 1) ++ K)), .shr (.int ↑pre.length), .shr (.int k), .shr (Ls (T .str) oth), .emp], rfl, ?_, k :: K, _, _, _, by rw [List.length_append, List.length_singleton, hk3, List.range_succ, List.append_assoc]; rfl, by rw [List.length_append, List.length_singleton, hk3, List.map_cons, hkd]; exact hs, by simp; omega, fun i hi => by rw [List.length_append, List.length_singleton, hk3]; rcases List.mem_cons.mp hi with z | z; omega; have := hm i z; omega⟩
      by_cases q1 : oth = []
      · simp (config := {contextual := true}) [-List.mem_append, -List.length_append, -List.filter_append, -List.getD_eq_getElem?_getD, evE_sel, callP, ha, hL, hD, hO, hlen, c3, ag, iso, nil, q1]
      · have q2 : (allG oth ws[k]).isNone = true := by
          cases z : allG oth ws[k] with
          | none => rfl
          | some _ => exact absurd ⟨q1, by rw [z]; rfl⟩ q
        simp (config := {contextual := true}) [-List.mem_append, -List.length_append, -List.filter_append, -List.getD_eq_getElem?_getD, evE_sel, callP, ha, hL, hD, hO, hlen, c3, ag, iso, nil, q1, q2]
  · rintro ρ' ⟨K, s2, s3, s4, rfl, hs, hk, hm⟩
    simp at hs hk
    have hl2 : K.length ≤ sizeLine := by omega
    have hD : ∀ i, i ∈ K → ws[i]? = some (ws.getD i []) := fun i hi => by
      have h := (hm i hi).2
      rw [List.getElem?_eq_getElem h]
      simp [h]
    have hm2 : ∀ i ∈ K, (ws.getD i []).length ≤ 1000 := fun i hi => by
      have h := (hm i hi).2
      have : ws.getD i [] = ws[i] := by simp [h]
      rw [this]
      exact hw _ (List.getElem_mem h)
    rw [hs]
    simp (config := {contextual := true}) [-List.getD_eq_getElem?_getD, evE_sel, callP, llast_ev, hl2, hm2, hD, shR, L_map]
    simp
end K58
end
section
namespace K58
open PySem Mi LB
theorem good_ev (m : Int) (ws : List (List Str)) (cs : List Str) (hc : cs ≠ []) (hc4 : cs.length ≤ 6) (hcn : ∀ x ∈ cs, okName x) (h1 : ws ≠ []) (h8 : ws.length ≤ 8) (hw : ∀ w ∈ ws, w.length < 8 ∧ ∀ x ∈ w, x ∈ cs) :
    ∃ m', callF prg 12 "_law_good" [.own (.list [.int m]), .shr (Ls (T .str) ws), .shr (Ls .str cs)] = .ret (false, .bool true) [.own (.list [.int m']), .emp, .emp] := by
  rw [callF_io at__law_good _ _ rfl]
  have ok1 : ∀ w : List Str, w.length ≤ 60 → (∀ x ∈ w, x ∈ cs) → okWord w := fun w h k => ⟨h, fun x hx => hcn x (k x hx), Nat.le_trans (ded_sub k) hc4⟩
  have okw : okWords ws := ⟨⟨List.length_pos_iff.mpr h1, by omega⟩, fun w hw' => ok1 w (by have := (hw w hw').1; omega) (hw w hw').2, Nat.le_trans (ded_sub fun x hx => by obtain ⟨w, h, k⟩ := List.mem_flatten.mp hx; exact (hw w h).2 x k) hc4⟩
  obtain ⟨ys, m', hb, _, hl, hG⟩ := blk_own (vs := [7]) (tg := .nm 7) (f := oneO { call := callF prg 11, sig := sigOf prg, mu := [6], fx := [0], fuel := 100 } (.call "_law_word" [.var 0, .var 2, .cst (.int 6)]))
    (xs := mapE (fun (i : Nat) => PyData.int ↑i) (List.range 4)) (fun m : Int => [Slot.own (PyData.list [PyData.int m]), Slot.shr (Ls (T .str) ws), Slot.shr (Ls .str cs), Slot.shr (Ls (T .str) ws), .emp, .emp, .emp, .emp]) (fun y => ∃ w, y = T .str w ∧ (w.length < 6 ∧ ∀ x ∈ w, x ∈ cs)) (fun _ => True) (by simp) (by simp)
    (fun x _ m _ => by
      refine ⟨_, rfl, ?_⟩
      obtain ⟨w, m', e1, e2, e3⟩ := word_ev (P := prg) 9 m cs 6 hc (by omega) (by omega) (by omega)
      have e1 : callF prg 11 "_law_word" [.own (.list [.int m]), .shr (Ls .str cs), .shr (.int 6)] = _ := e1
      refine ⟨T .str w, m', [Slot.own (PyData.list [PyData.int m']), Slot.shr (Ls (T .str) ws), Slot.shr (Ls .str cs), Slot.shr (Ls (T .str) ws), .emp, .emp, .emp, .shr x], ?_, rfl, trivial, w, rfl, e2, e3⟩
      simp [evE_sel, e1]) m trivial
  obtain ⟨vs, rfl, hv⟩ := words_of hG
  have eL : ∀ (xs : List (List Str)) (a b : List Str), PyData.list (mapE (T .str) xs ++ [T .str a, T .str b, .tuple []]) = Ls (T .str) (xs ++ [a, b, []]) := fun xs a b => by
    unfold mapE
    show _ = PyData.list (List.map _ _)
    rw [List.map_append]
    rfl
  obtain ⟨w0, f0, m0⟩ : ∃ w, ws[0]? = some w ∧ w ∈ ws := by
    cases ws with
    | nil => exact absurd rfl h1
    | cons a r => exact ⟨a, rfl, List.mem_cons_self⟩
  obtain ⟨wl, fl, ml⟩ : ∃ w, ws[ws.length - 1]? = some w ∧ w ∈ ws := by
    have : ws.length - 1 < ws.length := by have := List.length_pos_iff.mpr h1; omega
    exact ⟨_, List.getElem?_eq_getElem this, List.getElem_mem this⟩
  have q0 := hw w0 m0
  have ql := hw wl ml
  have hvl : vs.length = 4 := by simpa using hl
  refine ⟨m', ?_⟩
  have a1 : ws.length + vs.length ≤ sizeLine := by rw [size_eq]; omega
  have a2 : w0.length + wl.length ≤ sizeLine := by rw [size_eq]; omega
  have a3 : wl.length + w0.length ≤ sizeLine := by rw [size_eq]; omega
  have a4 : ws.length + vs.length + 3 ≤ sizeLine := by rw [size_eq]; omega
  have hb2 : (List.map (T .str) vs : List D) = mapE (T .str) vs := rfl
  rw [hb2] at hb
  simp [c__law_good, evE_sel, evI_sel, hb, f0, fl, a1, a2, a3, a4, eL]
  refine seq_for (fun f => endO 3 [0] f = _) (fun pre ρ => ∃ s5, ρ = [.own (.list [.int m']), .shr (Ls (T .str) ws), .shr (Ls .str cs), .shr (Ls (T .str) ws), .shr (Ls (T .str) (ws ++ vs ++ [w0 ++ wl, wl ++ w0, []])), s5, .emp, .emp]) ⟨.emp, by simp⟩ ?_ ?_
  · rintro pre w post ρ e ⟨s5, rfl⟩
    have hw' : w ∈ ws ++ vs ++ [w0 ++ wl, wl ++ w0, []] := by rw [List.append_assoc, e]; simp
    have kw : w.length ≤ 60 ∧ ∀ x ∈ w, x ∈ cs := by
      rcases List.mem_append.mp hw' with q | q
      · rcases List.mem_append.mp q with q | q
        · exact ⟨by have := (hw w q).1; omega, (hw w q).2⟩
        · exact ⟨by have := (hv w q).1; omega, (hv w q).2⟩
      · simp at q
        rcases q with rfl | rfl | rfl
        · exact ⟨by simp; omega, fun x hx => (List.mem_append.mp hx).elim (q0.2 x) (ql.2 x)⟩
        · exact ⟨by simp; omega, fun x hx => (List.mem_append.mp hx).elim (ql.2 x) (q0.2 x)⟩
        · exact ⟨by simp, by simp⟩
    have g1 := grounds_ok (P := prg) 6 ws w okw (ok1 w kw.1 kw.2) (Nat.le_trans (ded_sub fun x hx => by
      rcases List.mem_append.mp hx with q | q
      · obtain ⟨u, h, k⟩ := List.mem_flatten.mp q; exact (hw u h).2 x k
      · exact kw.2 x q) hc4)
    have g2 := lgrounds_ev 8 ws w (by omega) (by omega) fun o ho => by have := (hw o ho).1; omega
    simp [evE_sel, g1, g2, ne_self]
  · rintro ρ' ⟨s5, rfl⟩
    have g1 := shortened_ok (P := prg) 6 ws okw
    have g2 := lshort_ev 7 ws (by omega) fun o ho => by have := (hw o ho).1; omega
    have g3 := len_shR ws.reverse []
    simp only [List.length_reverse, List.length_nil, Nat.add_zero] at g3
    have g4 : (shR ws.reverse []).length < sizeLine := by rw [size_eq]; omega
    simp [evE_sel, g1, g2, g4]
    rfl
end K58
end
section
namespace K58
open PySem Mi LB
theorem turn_ev (ns : List Int) (x y : Nat) (hx : x < 5) (hy : y < 3) (s1 s2 s3 s5 s6 s7 : Mi.Slot) :
    ∃ s5' s6', evSs { call := callF prg 12, sig := sigOf prg, mu := [5], fx := [], fuel := 100 }
      [CS.asg 5 (.lst [.call "_law_cell" [.var 0, .bin .Add (.bin .Mult (.var 1) (.cst (.int 3))) (.var 4)]]), .asg 6 (.call "_law_words" [.var 5, .bin .Add (.cst (.int 2)) (.call "_law_take" [.var 5, .cst (.int 3)])]), .ite (.not (.call "_law_good" [.var 5, .lc [7] (.call "_law_word" [.var 5, .var 6, .cst (.int 8)]) (.nm 7) (.rng1 (.bin .Add (.cst (.int 1)) (.call "_law_take" [.var 5, .cst (.int 8)]))), .var 6])) [.ret (.cst (.bool false))] []]
      [.shr (scrD (ns.map PyData.int)), .shr (.int x), s2, s3, .shr (.int y), s5, s6, s7] = .nx [.shr (scrD (ns.map PyData.int)), .shr (.int x), s2, s3, .shr (.int y), s5', s6', s7] := by
  obtain ⟨c, hc⟩ := cell_ev (P := prg) 10 ns (x * 3 + y) (by omega)
  have hc : callF prg 12 "_law_cell" [.shr (scrD (ns.map PyData.int)), .shr (.int ((x : Int) * 3 + (y : Int)))] = .ret (false, .int c) [.emp, .emp] := by
    have e : ((x * 3 + y : Nat) : Int) = (x : Int) * 3 + (y : Int) := by omega
    rw [e] at hc
    exact hc
  have mx : mulOk (x : Int) 3 = true := mulOk_of (by omega) (by omega)
  have tk := take_ev (P := prg) 11 c 3 (by omega) (by omega)
  obtain ⟨t, ht, ht3⟩ : ∃ t : Nat, c % 3 = (t : Int) ∧ t < 3 := ⟨(c % 3).toNat, by omega, by omega⟩
  rw [ht] at tk
  obtain ⟨a, ha, hw⟩ := words10_ev (P := prg) 10 (c / 3) (2 + t)
  have hw : callF prg 12 "_law_words" [.own (.list [.int (c / 3)]), .shr (.int (2 + (t : Int)))] = .ret (true, Ls .str ((rot pool10 a).take (2 + t))) [.own (.list [.int (c / 3 / 10)]), .emp] := by
    have e : ((2 + t : Nat) : Int) = 2 + (t : Int) := by omega
    rw [e] at hw
    exact hw
  have hcs : (rot pool10 a).length = 10 := by unfold rot; simp [pool10]; omega
  have cn : ((rot pool10 a).take (2 + t)) ≠ [] := fun z => by
    have := congrArg List.length z
    rw [List.length_take, hcs] at this
    simp at this
  have cl : ((rot pool10 a).take (2 + t)).length ≤ 4 := by rw [List.length_take]; omega
  have co : ∀ z ∈ (rot pool10 a).take (2 + t), okName z := fun z hz => pool10_ok z (mem_rot (List.mem_of_mem_take hz))
  generalize (rot pool10 a).take (2 + t) = cs at *
  generalize c / 3 / 10 = m1 at *
  have tk8 := take_ev (P := prg) 11 m1 8 (by omega) (by omega)
  obtain ⟨u, hu, hu8⟩ : ∃ u : Nat, m1 % 8 = (u : Int) ∧ u < 8 := ⟨(m1 % 8).toNat, by omega, by omega⟩
  rw [hu] at tk8
  obtain ⟨ys, m', hb, _, hl, hG⟩ := blk_own (vs := [7]) (tg := .nm 7) (f := oneO { call := callF prg 12, sig := sigOf prg, mu := [5], fx := [], fuel := 100 } (.call "_law_word" [.var 5, .var 6, .cst (.int 8)]))
    (xs := mapE (fun (i : Nat) => PyData.int ↑i) (List.range (1 + u))) (fun m : Int => [.shr (scrD (ns.map PyData.int)), .shr (.int x), s2, s3, .shr (.int y), .own (.list [.int m]), .shr (Ls .str cs), s7]) (fun y => ∃ w, y = T .str w ∧ (w.length < 8 ∧ ∀ x ∈ w, x ∈ cs)) (fun _ => True) (by simp) (by simp)
    (fun z _ m _ => by
      refine ⟨_, rfl, ?_⟩
      obtain ⟨w, m', e1, e2, e3⟩ := word_ev (P := prg) 10 m cs 8 cn (by omega) (by omega) (by omega)
      have e1 : callF prg 12 "_law_word" [.own (.list [.int m]), .shr (Ls .str cs), .shr (.int 8)] = _ := e1
      refine ⟨T .str w, m', [.shr (scrD (ns.map PyData.int)), .shr (.int x), s2, s3, .shr (.int y), .own (.list [.int m']), .shr (Ls .str cs), .shr z], ?_, rfl, trivial, w, rfl, e2, e3⟩
      simp [evE_sel, e1]) (m1 / 8) trivial
  obtain ⟨ws, rfl, hws⟩ := words_of hG
  have hb2 : (List.map (T .str) ws : List D) = mapE (T .str) ws := rfl
  rw [hb2] at hb
  have hwl : ws.length = 1 + u := by simpa using hl
  obtain ⟨m2, gd⟩ := good_ev m' ws cs cn (by omega) co (fun z => by rw [z] at hwl; simp at hwl; omega) (by omega) hws
  have r2 : rngOk (1 + (u : Int)) = true := rngOk_int (by omega) (by omega)
  have e3 : (1 + (u : Int)).toNat = 1 + u := by omega
  have r3 : 1 + u ≤ sizeLine := by rw [size_eq]; omega
  refine ⟨.own (.list [.int m2]), .shr (Ls .str cs), ?_⟩
  simp [evE_sel, hc, mx, tk, hw, tk8, r2, r3, e3, hb, gd]
def sA : Str := "a"
def sB : Str := "b"
def long : List Str := List.replicate 30 sA ++ List.replicate 29 sB ++ [sA]
def many : List (List Str) := (List.range 59).map (fun k => List.replicate k sA ++ [sB]) ++ [long]
instance (ws : List (List Str)) : Decidable (okWords ws) := by unfold okWords; infer_instance
theorem many_ok : okWords many := by decide +kernel
theorem long_ok : okWord long := by decide +kernel
theorem many_g : allG many long = some [[sB], [sB], long] := by decide +kernel
theorem many_6 : (ded (many.flatten ++ long)).length ≤ 6 := by decide +kernel
theorem many_s : (shR many.reverse []).map lastOnes = [[sB], [sB, sA]] := by decide +kernel
theorem mul_a (k : Nat) (h : k ≤ 1000) (s : Str) : binOp .Mult (.tuple [.str s]) (.int (k : Int)) = some (false, T .str (List.replicate k s)) := by
  show (if (0 : Int) ≤ (k : Int) ∧ (k : Int) ≤ 1000 ∧ 1 ≤ 1000 then some (false, PyData.tuple (repL (k : Int).toNat [PyData.str s])) else none) = _
  rw [if_pos (by omega), Int.toNat_natCast]
  unfold repL T
  congr 2
  induction k with
  | zero => rfl
  | succ k ih => simpa [List.replicate_succ] using ih (by omega)
theorem mul_a30 (s : Str) : binOp .Mult (.tuple [.str s]) (.int 30) = some (false, T .str (List.replicate 30 s)) := mul_a 30 (by omega) s
theorem mul_a29 (s : Str) : binOp .Mult (.tuple [.str s]) (.int 29) = some (false, T .str (List.replicate 29 s)) := mul_a 29 (by omega) s
theorem many_D : PyData.list (mapE (fun (k : Nat) => T .str (List.replicate k sA ++ [sB])) (List.range 59) ++ [T .str long]) = Ls (T .str) many := by
  unfold many Ls mapE
  rw [List.map_append, List.map_map]
  rfl
theorem tail_ev (ns : List Int) (s1 s4 s5 s6 : Mi.Slot) : endP 1 (evSs { call := callF prg 12, sig := sigOf prg, mu := [5], fx := [], fuel := 100 } (c_law.drop 1) [.shr (scrD (ns.map PyData.int)), s1, .emp, .emp, s4, s5, s6, .emp]) = .ret (false, .bool true) [.emp] := by
  have eA : (Str.ofString "a") = sA := rfl
  have eB : (Str.ofString "b") = sB := rfl
  have kk : ∀ k, k ∈ List.range 59 → binOp .Mult (.tuple [.str sA]) (.int (k : Int)) = some (false, T .str (List.replicate k sA)) := fun k hk => mul_a k (by have := List.mem_range.mp hk; omega) sA
  have k1 : ∀ k, k ∈ List.range 59 → k + 1 ≤ sizeLine := fun k hk => by have := List.mem_range.mp hk; rw [size_eq]; omega
  have g1 := grounds_ok (P := prg) 7 many long many_ok long_ok many_6
  have g2 := shortened_ok (P := prg) 7 many many_ok
  rw [many_g] at g1
  rw [many_s] at g2
  have eL : T PyData.str (List.replicate 30 sA ++ (List.replicate 29 sB ++ [sA])) = T .str long := by unfold long; rw [List.append_assoc]
  have q1 : PyData.list [.tuple [.str sB], .tuple [.str sB], T .str long] = Ls (T .str) [[sB], [sB], long] := rfl
  have q2 : PyData.list [.tuple [.str sB], .tuple [.str sB, .str sA]] = Ls (T .str) [[sB], [sB, sA]] := rfl
  have q3 : PyData.list [.tuple [], .tuple []] = Ls (T .str) [[], []] := rfl
  have q4 : PyData.list [.tuple []] = Ls (T .str) [[]] := rfl
  have q5 : PyData.list [.tuple [.str sA]] = Ls (T .str) [[sA]] := rfl
  have q6 : PyData.list [.tuple [.str "c", .str sB], .tuple [.str "d", .str sA], .tuple [.str sA, .str sB]] = Ls (T .str) [["c", sB], ["d", sA], [sA, sB]] := rfl
  have q7 : PyData.list [.tuple [.str sA, .str sB], .tuple [.str "d", .str sA], .tuple [.str "c", .str sB]] = Ls (T .str) [[sA, sB], ["d", sA], ["c", sB]] := rfl
  have g3 : callF prg 12 "shortened" [.shr (Ls (T .str) [[], []])] = .ret (true, Ls (T .str) [[]]) [.emp] := shortened_ok (P := prg) 7 [[], []] (by decide +kernel)
  have g4 : callF prg 12 "grounds" [.shr (Ls (T .str) [[]]), .shr (.tuple [])] = .ret (true, Ls (T .str) [[]]) [.emp, .emp] := grounds_ok (P := prg) 7 [[]] [] (by decide +kernel) (by decide +kernel) (by decide +kernel)
  have g5 : callF prg 12 "grounds" [.shr (Ls (T .str) [[sA]]), .shr (.tuple [])] = .ret (false, .none) [.emp, .emp] := by
    have z : allG [[sA]] [] = none := by decide +kernel
    have := grounds_ok (P := prg) 7 [[sA]] [] (by decide +kernel) (by decide +kernel) (by decide +kernel)
    rw [z] at this
    exact this
  have g6 : callF prg 12 "grounds" [.shr (Ls (T .str) [["c", sB], ["d", sA], [sA, sB]]), .shr (.tuple [.str sA, .str sB])] = .ret (true, Ls (T .str) [[sA, sB], ["d", sA], ["c", sB]]) [.emp, .emp] := by
    have z : allG [["c", sB], ["d", sA], [sA, sB]] [sA, sB] = some [[sA, sB], ["d", sA], ["c", sB]] := by decide +kernel
    have := grounds_ok (P := prg) 7 [["c", sB], ["d", sA], [sA, sB]] [sA, sB] (by decide +kernel) (by decide +kernel) (by decide +kernel)
    rw [z] at this
    exact this
  have g1 : callF prg 12 "grounds" [.shr (Ls (T .str) many), .shr (T .str long)] = .ret (true, Ls (T .str) [[sB], [sB], long]) [.emp, .emp] := g1
  have g2 : callF prg 12 "shortened" [.shr (Ls (T .str) many)] = _ := g2
  have ne : ∀ x : List (List Str), cmpOp .NotEq (Ls (T .str) x) (Ls (T .str) x) = some false := fun x => by simpa using ne_enc (e := Ls (T PyData.str)) (by decide) x x
  have eq : ∀ x : List (List Str), cmpOp .Eq (Ls (T .str) x) (Ls (T .str) x) = some true := fun x => by simpa using eq_enc (e := Ls (T PyData.str)) (by decide) x x
  simp (config := {contextual := true}) [-List.mem_range, -List.reduceReplicate, c_law, evE_sel, eA, eB, mul_a30, mul_a29, kk, k1, eL, many_D, g1, g2, g3, g4, g5, g6, q1, q2, q3, q4, q5, q6, q7, ne, eq]
theorem law_true (ns : List Int) (h1 : ns.length ≤ 63) (h2 : ∀ z ∈ ns, Builtin.Int.intBits z ≤ 1048576) : ∃ fl outs, callF (prgOf rows) 13 "law" [.shr (scrD (ns.map PyData.int))] = .ret (fl, .bool true) outs := by
  refine ⟨false, [.emp], ?_⟩
  show callF prg (12 + 1) "law" _ = _
  rw [callF_pure at_law _ _ rfl rfl]
  obtain ⟨t, ht, ht5⟩ : ∃ t : Nat, (if (if 5 < ns.length then (5 : Int) else (ns.length : Int)) < 1 then (1 : Int) else if 5 < ns.length then 5 else (ns.length : Int)) = (t : Int) ∧ t ≤ 5 := by
    refine ⟨if 5 < ns.length then 5 else if ns.length = 0 then 1 else ns.length, ?_, ?_⟩
    · split <;> split <;> (try split) <;> (try split) <;> omega
    · split <;> (try split) <;> omega
  have r1 := rngOk_nat t (by omega)
  simp [c_law, evE_sel, evI_sel, ht, r1]
  refine seq_for (fun f => endP 1 f = _) (fun pre ρ => ∃ s1 s4 s5 s6, ρ = [.shr (scrD (ns.map PyData.int)), s1, .emp, .emp, s4, s5, s6, .emp]) ⟨_, _, _, _, rfl⟩ ?_ ?_
  · rintro pre x post ρ e ⟨s1, s4, s5, s6, rfl⟩
    obtain ⟨hx, hp⟩ := range_split e
    suffices h : ∃ ρ2, evSs { call := callF prg 12, sig := sigOf prg, mu := [5], fx := [], fuel := 100 } _ [.shr (scrD (ns.map PyData.int)), .shr (.int x), .emp, .emp, s4, s5, s6, .emp] = .nx ρ2 ∧ ∃ s1 s4 s5 s6, ρ2 = [.shr (scrD (ns.map PyData.int)), s1, .emp, .emp, s4, s5, s6, .emp] from by
      obtain ⟨ρ2, h1, h2⟩ := h
      exact ⟨_, ρ2, rfl, h1, h2⟩
    simp [evI_sel, evE_sel]
    refine seq_for (fun f => ∃ ρ2, f = .nx ρ2 ∧ ∃ s1 s4 s5 s6, ρ2 = [.shr (scrD (ns.map PyData.int)), s1, .emp, .emp, s4, s5, s6, .emp]) (fun pre ρ => ∃ s4 s5 s6, ρ = [.shr (scrD (ns.map PyData.int)), .shr (.int x), .emp, .emp, s4, s5, s6, .emp]) ⟨_, _, _, rfl⟩ ?_ ?_
    · rintro pre2 y post2 ρ e2 ⟨s4, s5, s6, rfl⟩
      obtain ⟨hy, hp2⟩ := range_split e2
      obtain ⟨s5', s6', ht⟩ := turn_ev ns x y (by omega) (by omega) .emp .emp .emp s5 s6 .emp
      exact ⟨_, _, rfl, ht, _, _, _, rfl⟩
    · rintro ρ' ⟨s4, s5, s6, rfl⟩
      exact ⟨_, evSs_nil _ _, _, _, _, _, rfl⟩
  · rintro ρ' ⟨s1, s4, s5, s6, rfl⟩
    exact tail_ev ns s1 s4 s5 s6
end K58
end
section
open PySem PySem.W PyProof.Rows
set_option maxRecDepth 100000 in
set_option maxHeartbeats 0 in
theorem PySem.Challenge.cw_lasttouch_k58_grounds_and_shortened_word_holds : PySem.Challenge.rw_lasttouch_k58_grounds_and_shortened_word.Holds := by
  w_on; o_law; k_head; (case hw => w_witness2)
  k_fill
  refine Mi.walk_end (l := PySem.Challenge.rw_lasttouch_k58_grounds_and_shortened_word) (Pr := Mi.prgOf K58.rows) (k := 12 + 1) (x := "script") (nm := "law") (ex := fun _ _ _ _ _ => True) rfl rfl ⟨rfl, by decide, by decide⟩ (fun w h Y => PySem.W.kIn_of Y) ?F (fun ns h1 h2 => K58.law_true ns h1 h2)
  case F =>
    intro w mg fa h KX G hmg0
    have hmg : mg "law" = some (.ref fa) := hmg0
    clear hmg0
    have k_is_name : Mi.RowK (L2.KOf KX) mg K58.r_is_name := by
      dsimp only [L2.KOf]
      refine' Mi.rk_mk (x := "is_name") (st := K58.top 10) KX G (fun _ _ _ _ _ _ us hl => match us, hl with | [_], _ => rfl) ?a ?l ?c ?k
      (case a => k_is); (case l => k_is); (case c => k_is); (case k => k_is)
    have k_is_word : Mi.RowK (L2.KOf KX) mg K58.r_is_word := by
      dsimp only [L2.KOf]
      refine' Mi.rk_mk (x := "is_word") (st := K58.top 13) KX G (fun _ _ _ _ _ _ us hl => match us, hl with | [_], _ => rfl) ?a ?l ?c ?k
      (case a => k_is); (case l => k_is); (case c => k_is); (case k => k_is)
    have k_check_word : Mi.RowK (L2.KOf KX) mg K58.r_check_word := by
      dsimp only [L2.KOf]
      refine' Mi.rk_mk (x := "check_word") (st := K58.top 14) KX G (fun _ _ _ _ _ _ us hl => match us, hl with | [_], _ => rfl) ?a ?l ?c ?k
      (case a => k_is); (case l => k_is); (case c => k_is); (case k => k_is)
    have k_contains : Mi.RowK (L2.KOf KX) mg K58.r_contains := by
      dsimp only [L2.KOf]
      refine' Mi.rk_mk (x := "contains") (st := K58.top 16) KX G (fun _ _ _ _ _ _ us hl => match us, hl with | [_, _], _ => rfl) ?a ?l ?c ?k
      (case a => k_is); (case l => k_is); (case c => k_is); (case k => k_is)
    have k_last_ones : Mi.RowK (L2.KOf KX) mg K58.r_last_ones := by
      dsimp only [L2.KOf]
      refine' Mi.rk_mk (x := "last_ones") (st := K58.top 19) KX G (fun _ _ _ _ _ _ us hl => match us, hl with | [_], _ => rfl) ?a ?l ?c ?k
      (case a => k_is); (case l => k_is); (case c => k_is); (case k => k_is)
    have k_behind_last : Mi.RowK (L2.KOf KX) mg K58.r_behind_last := by
      dsimp only [L2.KOf]
      refine' Mi.rk_mk (x := "behind_last") (st := K58.top 20) KX G (fun _ _ _ _ _ _ us hl => match us, hl with | [_, _], _ => rfl) ?a ?l ?c ?k
      (case a => k_is); (case l => k_is); (case c => k_is); (case k => k_is)
    have k_all_grounds : Mi.RowK (L2.KOf KX) mg K58.r_all_grounds := by
      dsimp only [L2.KOf]
      refine' Mi.rk_mk (x := "all_grounds") (st := K58.top 21) KX G (fun _ _ _ _ _ _ us hl => match us, hl with | [_, _], _ => rfl) ?a ?l ?c ?k
      (case a => k_is); (case l => k_is); (case c => k_is); (case k => k_is)
    have k_is_words : Mi.RowK (L2.KOf KX) mg K58.r_is_words := by
      dsimp only [L2.KOf]
      refine' Mi.rk_mk (x := "is_words") (st := K58.top 22) KX G (fun _ _ _ _ _ _ us hl => match us, hl with | [_], _ => rfl) ?a ?l ?c ?k
      (case a => k_is); (case l => k_is); (case c => k_is); (case k => k_is)
    have k_check_words : Mi.RowK (L2.KOf KX) mg K58.r_check_words := by
      dsimp only [L2.KOf]
      refine' Mi.rk_mk (x := "check_words") (st := K58.top 23) KX G (fun _ _ _ _ _ _ us hl => match us, hl with | [_], _ => rfl) ?a ?l ?c ?k
      (case a => k_is); (case l => k_is); (case c => k_is); (case k => k_is)
    have k_grounds : Mi.RowK (L2.KOf KX) mg K58.r_grounds := by
      dsimp only [L2.KOf]
      refine' Mi.rk_mk (x := "grounds") (st := K58.top 24) KX G (fun _ _ _ _ _ _ us hl => match us, hl with | [_, _], _ => rfl) ?a ?l ?c ?k
      (case a => k_is); (case l => k_is); (case c => k_is); (case k => k_is)
    have k_shortened_words : Mi.RowK (L2.KOf KX) mg K58.r_shortened_words := by
      dsimp only [L2.KOf]
      refine' Mi.rk_mk (x := "shortened_words") (st := K58.top 25) KX G (fun _ _ _ _ _ _ us hl => match us, hl with | [_], _ => rfl) ?a ?l ?c ?k
      (case a => k_is); (case l => k_is); (case c => k_is); (case k => k_is)
    have k_shortened : Mi.RowK (L2.KOf KX) mg K58.r_shortened := by
      dsimp only [L2.KOf]
      refine' Mi.rk_mk (x := "shortened") (st := K58.top 26) KX G (fun _ _ _ _ _ _ us hl => match us, hl with | [_], _ => rfl) ?a ?l ?c ?k
      (case a => k_is); (case l => k_is); (case c => k_is); (case k => k_is)
    have k__law_mixed : Mi.RowK (L2.KOf KX) mg K58.r__law_mixed := by
      dsimp only [L2.KOf]
      refine' Mi.rk_mk (x := "_law_mixed") (st := K58.top 28) KX G (fun _ _ _ _ _ _ us hl => match us, hl with | [_, _], _ => rfl) ?a ?l ?c ?k
      (case a => k_is); (case l => k_is); (case c => k_is); (case k => k_is)
    have k__law_cell : Mi.RowK (L2.KOf KX) mg K58.r__law_cell := by
      dsimp only [L2.KOf]
      refine' Mi.rk_mk (x := "_law_cell") (st := K58.top 29) KX G (fun _ _ _ _ _ _ us hl => match us, hl with | [_, _], _ => rfl) ?a ?l ?c ?k
      (case a => k_is); (case l => k_is); (case c => k_is); (case k => k_is)
    have k__law_take : Mi.RowK (L2.KOf KX) mg K58.r__law_take := by
      dsimp only [L2.KOf]
      refine' Mi.rk_mk (x := "_law_take") (st := K58.top 30) KX G (fun _ _ _ _ _ _ us hl => match us, hl with | [_, _], _ => rfl) ?a ?l ?c ?k
      (case a => k_is); (case l => k_is); (case c => k_is); (case k => k_is)
    have k__law_words : Mi.RowK (L2.KOf KX) mg K58.r__law_words := by
      dsimp only [L2.KOf]
      refine' Mi.rk_mk (x := "_law_words") (st := K58.top 31) KX G (fun _ _ _ _ _ _ us hl => match us, hl with | [_, _], _ => rfl) ?a ?l ?c ?k
      (case a => k_is); (case l => k_is); (case c => k_is); (case k => k_is)
    have k__law_within : Mi.RowK (L2.KOf KX) mg K58.r__law_within := by
      dsimp only [L2.KOf]
      refine' Mi.rk_mk (x := "_law_within") (st := K58.top 32) KX G (fun _ _ _ _ _ _ us hl => match us, hl with | [_, _], _ => rfl) ?a ?l ?c ?k
      (case a => k_is); (case l => k_is); (case c => k_is); (case k => k_is)
    have k__law_joined : Mi.RowK (L2.KOf KX) mg K58.r__law_joined := by
      dsimp only [L2.KOf]
      refine' Mi.rk_mk (x := "_law_joined") (st := K58.top 33) KX G (fun _ _ _ _ _ _ us hl => match us, hl with | [_, _], _ => rfl) ?a ?l ?c ?k
      (case a => k_is); (case l => k_is); (case c => k_is); (case k => k_is)
    have k__law_after : Mi.RowK (L2.KOf KX) mg K58.r__law_after := by
      dsimp only [L2.KOf]
      refine' Mi.rk_mk (x := "_law_after") (st := K58.top 34) KX G (fun _ _ _ _ _ _ us hl => match us, hl with | [_, _], _ => rfl) ?a ?l ?c ?k
      (case a => k_is); (case l => k_is); (case c => k_is); (case k => k_is)
    have k__law_last : Mi.RowK (L2.KOf KX) mg K58.r__law_last := by
      dsimp only [L2.KOf]
      refine' Mi.rk_mk (x := "_law_last") (st := K58.top 35) KX G (fun _ _ _ _ _ _ us hl => match us, hl with | [_], _ => rfl) ?a ?l ?c ?k
      (case a => k_is); (case l => k_is); (case c => k_is); (case k => k_is)
    have k__law_grounds : Mi.RowK (L2.KOf KX) mg K58.r__law_grounds := by
      dsimp only [L2.KOf]
      refine' Mi.rk_mk (x := "_law_grounds") (st := K58.top 36) KX G (fun _ _ _ _ _ _ us hl => match us, hl with | [_, _], _ => rfl) ?a ?l ?c ?k
      (case a => k_is); (case l => k_is); (case c => k_is); (case k => k_is)
    have k__law_shortened : Mi.RowK (L2.KOf KX) mg K58.r__law_shortened := by
      dsimp only [L2.KOf]
      refine' Mi.rk_mk (x := "_law_shortened") (st := K58.top 37) KX G (fun _ _ _ _ _ _ us hl => match us, hl with | [_], _ => rfl) ?a ?l ?c ?k
      (case a => k_is); (case l => k_is); (case c => k_is); (case k => k_is)
    have k__law_word : Mi.RowK (L2.KOf KX) mg K58.r__law_word := by
      dsimp only [L2.KOf]
      refine' Mi.rk_mk (x := "_law_word") (st := K58.top 38) KX G (fun _ _ _ _ _ _ us hl => match us, hl with | [_, _, _], _ => rfl) ?a ?l ?c ?k
      (case a => k_is); (case l => k_is); (case c => k_is); (case k => k_is)
    have k__law_good : Mi.RowK (L2.KOf KX) mg K58.r__law_good := by
      dsimp only [L2.KOf]
      refine' Mi.rk_mk (x := "_law_good") (st := K58.top 39) KX G (fun _ _ _ _ _ _ us hl => match us, hl with | [_, _, _], _ => rfl) ?a ?l ?c ?k
      (case a => k_is); (case l => k_is); (case c => k_is); (case k => k_is)
    have k_law : Mi.RowK (L2.KOf KX) mg K58.r_law := by
      dsimp only [L2.KOf]
      refine' Mi.rk_mk (x := "law") (st := K58.top 40) KX G (fun _ _ _ _ _ _ us hl => match us, hl with | [_], _ => rfl) ?a ?l ?c ?k
      (case a => k_is); (case l => k_is); (case c => k_is); (case k => k_is)
    have c_LETTERS : Mi.CK (L2.KOf KX) mg "LETTERS" (.str "abcdefghijklmnopqrstuvwxyz") := by
      dsimp only [L2.KOf]
      refine' Mi.ck_str (x := "LETTERS") KX G ?a
      (case a => k_is)
    have c_LONGEST : Mi.CK (L2.KOf KX) mg "LONGEST" (.int 8) := by
      dsimp only [L2.KOf]
      refine' Mi.ck_int (x := "LONGEST") KX G ?a
      (case a => k_is)
    have c_MOST_NAMES : Mi.CK (L2.KOf KX) mg "MOST_NAMES" (.int 6) := by
      dsimp only [L2.KOf]
      refine' Mi.ck_int (x := "MOST_NAMES") KX G ?a
      (case a => k_is)
    have c_MOST_ACTIONS : Mi.CK (L2.KOf KX) mg "MOST_ACTIONS" (.int 60) := by
      dsimp only [L2.KOf]
      refine' Mi.ck_int (x := "MOST_ACTIONS") KX G ?a
      (case a => k_is)
    have c_MOST_WORDS : Mi.CK (L2.KOf KX) mg "MOST_WORDS" (.int 60) := by
      dsimp only [L2.KOf]
      refine' Mi.ck_int (x := "MOST_WORDS") KX G ?a
      (case a => k_is)
    have w_NO_NAMES : Mi.WK (L2.KOf KX) mg "NO_NAMES" [.str "skip", .str "start", .str "end"] := by
      dsimp only [L2.KOf]
      refine' Mi.wk_strs (x := "NO_NAMES") (ss := ["skip", "start", "end"]) KX G ?a ?l ?s ?v
      (case a => k_is); (case l => k_is); (case s => decide)
      (case v => exact .cons ⟨_, rfl⟩ (.cons ⟨_, rfl⟩ (.cons ⟨_, rfl⟩ (.nil))))
    have T3 : ∀ x ∈ Mi.bltL, mg x = none := Mi.ac (PySem.W.mg_none_of KX G (by k_is)) (Mi.ac (PySem.W.mg_none_of KX G (by k_is)) (Mi.ac (PySem.W.mg_none_of KX G (by k_is)) (Mi.ac (PySem.W.mg_none_of KX G (by k_is)) (Mi.ac (PySem.W.mg_none_of KX G (by k_is)) (Mi.ac (PySem.W.mg_none_of KX G (by k_is)) (Mi.ac (PySem.W.mg_none_of KX G (by k_is)) (Mi.ac (PySem.W.mg_none_of KX G (by k_is)) (Mi.ac (PySem.W.mg_none_of KX G (by k_is)) (Mi.ac (PySem.W.mg_none_of KX G (by k_is)) (Mi.ac (PySem.W.mg_none_of KX G (by k_is)) (Mi.ac (PySem.W.mg_none_of KX G (by k_is)) (Mi.ac (PySem.W.mg_none_of KX G (by k_is)) (Mi.ac (PySem.W.mg_none_of KX G (by k_is)) (Mi.ac (PySem.W.mg_none_of KX G (by k_is)) (Mi.ac (PySem.W.mg_none_of KX G (by k_is)) (Mi.ac (PySem.W.mg_none_of KX G (by k_is)) (Mi.ac (PySem.W.mg_none_of KX G (by k_is)) (Mi.ac (PySem.W.mg_none_of KX G (by k_is)) (Mi.an)))))))))))))))))))
    have T1 := K58.T1 c_LETTERS c_LONGEST c_MOST_NAMES c_MOST_ACTIONS c_MOST_WORDS
    have T2 := K58.T2 w_NO_NAMES
    have T0 := K58.rks k_is_name k_is_word k_check_word k_contains k_last_ones k_behind_last k_all_grounds k_is_words k_check_words k_grounds k_shortened_words k_shortened k__law_mixed k__law_cell k__law_take k__law_words k__law_within k__law_joined k__law_after k__law_last k__law_grounds k__law_shortened k__law_word k__law_good k_law
    dsimp only [L2.KOf] at T0 T1 T2
    refine' Mi.law_fn (x := "law") (st := K58.top 40) K58.oks T0 T1 T2 T3 KX G hmg K58.law_mem K58.law_at (fun _ _ _ _ _ _ us hl => match us, hl with | [_], _ => rfl) ?a ?l ?c ?k
    (case a => k_is); (case l => k_is); (case c => k_is); (case k => k_is)
end
